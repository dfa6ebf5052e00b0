import PyProof.Rows.All
import Wide.All
import OpenK.AllK
import Wide.FinOn
import KE.KStateDown
import Lean
import HandS.Base
import HandS.Call
import HandS.List
import HandS.Comp
import HandS.Ends
import HandS.Dict
import HandS.Iter
import HandS.Text
import HandS.More
import HandS.Exc
import HandS.Words
import HandS.WordsList
import HandS.Defaults
import HandS.Wide
import HandS.TupAny
import HandS.Flow
import HandS.Style
import HandS.Conv
import HandS.IsInst
import HandS.Head0
import HandS.Head1
import HandS.Head2
import HandS.HeadEnd
import HandS.HeadHook1
import HandS.HeadHook2
import HandS.HeadHook3
import HandS.DeepEq
import PyProof.NeData
import HandS.Codes
import HandS.Zip
import KE.KDictZip
import HandS.SetFor
import HandS.Strs
import HandS.SortInts
import PyProof.ReprRoads
import PyProof.CallFns
import HandS.SetKeys
import KE.KEqNest
import HandS.HeadHook4
import PySem.Challenge.RW_lazywebs_k62_bent_papers_of_sweeps
set_option Elab.async false
set_option linter.all false
set_option maxRecDepth 100000
set_option maxHeartbeats 4000000
namespace Lz
open PySem PySem.Spec PyProof.Rows L2
/-! ### heaps by what is known of them -/
/-- a new object o at p -/
def New (H : Hp) (o : HO) (R : Addr → Hp → Prop) : Prop := ∀ p H', H p = none → H' p = some o → Same H H' → R p H'
/-- but for a all is as it was -/
def Chg (a : Addr) (H H' : Hp) : Prop := ∀ b o, b ≠ a → H b = some o → H' b = some o
/-- the object at a is now o -/
def Put (H : Hp) (a : Addr) (o : HO) (R : Hp → Prop) : Prop := ∀ H', H' a = some o → Chg a H H' → R H'
theorem same_upd {H : Hp} {p : Addr} {o : HO} (h : H p = none) : Same H (upd H p o) := fun b u e => by rw [upd_ne (ne_of_none e h)]; exact e
theorem New.at {H : Hp} {o : HO} {R : Addr → Hp → Prop} (h : New H o R) : ∀ p, H p = none → R p (upd H p o) := fun p hp => h p _ hp upd_same (same_upd hp)
theorem Put.at {H : Hp} {a : Addr} {o : HO} {R : Hp → Prop} (h : Put H a o R) : R (upd H a o) := h _ upd_same fun b u n e => by rw [upd_ne n]; exact e
section
variable {X : Cx}
theorem opr_imp {f : Value → Value → Sem Value} {r r' : R2} (h : OpR X f r) (i : ∀ x y H Q, r' x y H Q → r x y H Q) : OpR X f r' := fun pins s σ H x y v u Q I rx ry q => h pins s σ H x y v u Q I rx ry (i _ _ _ _ q)
theorem callr_imp {f : Value} {r r' : List V → Hp → VK → Prop} (h : CallR X f r) (i : ∀ xs H Q, r' xs H Q → r xs H Q) : CallR X f r' := fun pins s σ H xs us Q I rs q => h pins s σ H xs us Q I rs (i _ _ _ q)
theorem mtr_imp {id : String} {r r' : V → List V → Hp → VK → Prop} (h : MtR X id r) (i : ∀ x xs H Q, r' x xs H Q → r x xs H Q) : MtR X id r' := fun pins s σ H x xs v us Q I rx rs q => h pins s σ H x xs v us Q I rx rs (i _ _ _ _ q)
theorem slr_imp {r r' : V → Option Int → Option Int → Hp → VK → Prop} (h : SlR X r) (i : ∀ x lo hi H Q, r' x lo hi H Q → r x lo hi H Q) : SlR X r' := fun pins s σ H x v vl vu lo hi sl Q I rx hs pl pu q => h pins s σ H x v vl vu lo hi sl Q I rx hs pl pu (i _ _ _ _ _ q)
/-- a reading's upward closure -/
def clA (t : TA) : TA := fun σ H Q => ∃ Q0, t σ H Q0 ∧ ∀ xs H1, Q0 xs H1 → Q xs H1
def clE (t : TE) : TE := fun σ H Q => ∃ Q0, t σ H Q0 ∧ ∀ x H1, Q0 x H1 → Q x H1
theorem pa_cl {es : List Expr} {t : TA} (h : PA X es t) : PA X es (clA t) := ⟨fun pos pins s σ H Q I ⟨Q0, q, i⟩ => thn (h.run pos pins s σ H Q0 I q) fun us s' ⟨vs, H', I', r, q'⟩ => ⟨vs, H', I', r, i _ _ q'⟩⟩
theorem pe_cl {e : Expr} {t : TE} (h : PE X e t) : PE X e (clE t) := ⟨fun pins s σ H Q I ⟨Q0, q, i⟩ => thn (h.run pins s σ H Q0 I q) fun us s' ⟨vs, H', I', r, q'⟩ => ⟨vs, H', I', r, i _ _ q'⟩⟩
/-- displays -/
def tTupN (t : TA) : TE := fun σ H Q => t σ H fun xs H1 => xs.length ≤ sizeLine ∧ New H1 (.tup xs) fun p H2 => Q (.ref p) H2
def tLstN (t : TA) : TE := fun σ H Q => t σ H fun xs H1 => xs.length ≤ sizeLine ∧ New H1 (.lst xs) fun p H2 => Q (.ref p) H2
theorem pe_tupN {es : List Expr} {t : TA} {x1 pos} (h : PA X es t) : PE X (.Tuple es x1 pos) (tTupN t) :=
  ⟨fun pins s σ H Q I q => (pe_tup (pa_cl h)).run pins s σ H Q I ⟨_, q, fun xs H1 ⟨hl, n⟩ => ⟨hl, n.at⟩⟩⟩
theorem pe_lstN {es : List Expr} {t : TA} {pos} (h : PA X es t) : PE X (.List es pos) (tLstN t) :=
  ⟨fun pins s σ H Q I q => (pe_lst (pa_cl h)).run pins s σ H Q I ⟨_, q, fun xs H1 ⟨hl, n⟩ => ⟨hl, n.at⟩⟩⟩
def tDNewKN : TE := fun _ H Q => New H (.dK []) fun p H2 => Q (.ref p) H2
/-- a display of a dict: its pairs while it is empty, then filled -/
def tDispN (trs : List (TE × TE)) : TE := fun σ H Q => New H (.dK []) fun p H1 => tPairs trs σ H1 fun ps H2 => H2 p = some (.dK []) ∧ ∃ kvs : List (Key × V), ps = kvs.map (fun kv => (kV kv.1, kv.2)) ∧ kvs.length ≤ 15 ∧ Put H2 p (.dK (mergeK [] kvs)) fun H' => Q (.ref p) H'
def clP (trs : List (TE × TE)) : List (TE × TE) := trs.map fun q => (clE q.1, clE q.2)
theorem pe_dnewKN {pos} : PE X (.Dict [] [] pos) tDNewKN := ⟨fun pins s σ H Q I q => pe_dnewK.run pins s σ H Q I (New.at q)⟩
end
/-! ### operators, whatever the operands are -/
section
variable {X : Cx}
def rAddG (K : PySem.W.Frag) : R2 := fun x y H Q => (rI0 fun i j => .int (i + j)) x y H Q ∨ (∃ i j, x = .str i ∧ y = .str j ∧ i.length + j.length ≤ sizeLine ∧ Q (.str (i ++ j)) H) ∨
  (∃ l b xs zs, x = .ref l ∧ y = .ref b ∧ H l = some (.lst xs) ∧ H b = some (.lst zs) ∧ xs.length + zs.length ≤ sizeLine ∧ New H (.lst (xs ++ zs)) fun p H' => Q (.ref p) H') ∨
  (∃ a b xs ys, x = .ref a ∧ y = .ref b ∧ SqT K H a xs ∧ SqT K H b ys ∧ xs.length + ys.length ≤ sizeLine ∧
    (xs = [] → Q (.ref b) H) ∧ (xs ≠ [] → ys = [] → Q (.ref a) H) ∧ (xs ≠ [] → ys ≠ [] → New H (.tup (xs ++ ys)) fun p H' => Q (.ref p) H'))
theorem op_addG : OpR X (binaryOp .Add) (rAddG X.K) := opr_imp (op_add.or (op_add_str.or (op_cat.or op_catA))) fun x y H Q h => by
  rcases h with h | h | ⟨l, b, xs, zs, e1, e2, h1, h2, hl, n⟩ | ⟨a, b, xs, ys, e1, e2, h1, h2, hl, n0, n1, n⟩
  · exact .inl h
  · exact .inr (.inl h)
  · exact .inr (.inr (.inl ⟨l, b, xs, zs, e1, e2, h1, h2, hl, n.at⟩))
  · exact .inr (.inr (.inr ⟨a, b, xs, ys, e1, e2, h1, h2, hl, n0, n1, fun x1 y1 => (n x1 y1).at⟩))
abbrev rSubG : R2 := rI0 fun i j => .int (i - j)
def rMulG : R2 := fun x y H Q => (rI CMul fun i j => .int (i * j)) x y H Q ∨ (rI CMulW fun i j => .int (i * j)) x y H Q
theorem op_mulG : OpR X (binaryOp .Mult) rMulG := op_mul.or op_mulW
abbrev rDivG : R2 := rI CDivW fun i j => .int (i / j)
abbrev rModG : R2 := rI (fun _ j => 0 < j) fun i j => .int (i % j)
abbrev rPowG : R2 := rI CPow fun i j => .int (i ^ j.toNat)
/-- values that are like themselves at once: those of hits_all, and one and the same object -/
def flatR : V → Bool
  | .ref _ => true
  | v => flatB v
theorem eqAt_sameR {A : Around} {s : Shared} {v : V} {u u' : Value} (r : RelV v u) (r' : RelV v u') (f : flatR v = true) : SeqAt.EqAt A s u u' true := by
  cases v with
  | ref a =>
    obtain rfl : u = Value.ref a := r
    obtain rfl : u' = Value.ref a := r'
    exact SeqAt.EqAt.same _
  | _ => exact eqAt_same r r' f
theorem hits_allR {κ : Type} [DecidableEq κ] {A : Around} {s : Shared} {kvs : List (κ × V)} {vb : List (κ × Value)} (rb : KV kvs vb) {ks : List (κ × V)} {va : List (κ × Value)} (ra : KV ks va) :
    (∀ p ∈ ks, valV kvs p.1 = some p.2 ∧ flatR p.2 = true) → PySem.W.KeqHits A s vb va true := by
  unfold KV at ra
  induction ra with
  | nil => intro _; exact .nil
  | @cons p q ps qs h t ih =>
    intro hp
    obtain ⟨h1, h2⟩ := h
    obtain ⟨e, f⟩ := hp p List.mem_cons_self
    have rr : RelO (some p.2) (valueAt vb p.1) := by rw [← e]; exact rb.val p.1
    obtain ⟨y, hy, ry⟩ := rr.some_of
    obtain ⟨k, v⟩ := q
    have h1' : p.1 = k := h1
    rw [h1'] at hy
    show PySem.W.KeqHits A s vb ((k, v) :: qs) (true && true)
    exact .hit hy (eqAt_sameR h2 ry f) (ih fun p' hm => hp p' (List.mem_cons_of_mem _ hm))
/-- two dicts that hold the same, whatever the order of their keys is; values flat or the same objects -/
def rSameD (b : Bool) : R2 := fun x y H Q => ∃ p q ks ls, x = .ref p ∧ y = .ref q ∧ H p = some (.dK ks) ∧ H q = some (.dK ls) ∧ ks.length = ls.length ∧ (∀ p ∈ ks, valV ls p.1 = some p.2 ∧ flatR p.2 = true) ∧ Q (.bl b) H
theorem op_eq_dictR (hu : X.A.units < cLine) : OpR X (compareOp .Eq) (rSameD true) := by
  intro pins s σ H x y v u Q I rx ry h
  obtain ⟨a, b, ks, ls, rfl, rfl, ea, eb, hlen, hp, q⟩ := h
  obtain rfl : v = Value.ref a := rx
  obtain rfl : u = Value.ref b := ry
  obtain ⟨_, ya, va, ra, da⟩ := (show ObjOk X.prog X.w H s.heap a (.dK ks) from I.hok a _ ea)
  obtain ⟨_, yb, vb, rb, db⟩ := (show ObjOk X.prog X.w H s.heap b (.dK ls) from I.hok b _ eb)
  have hl : va.length = vb.length := by rw [← ra.length, ← rb.length]; exact hlen
  exact PySem.W.keq_eq (knd := mixKind X.prog X.w) (r := true) ya yb da db hu (fun _ => hits_allR rb ra hp) (fin_bl I q (by simp [hl]))
theorem op_ne_dictR (hu : X.A.units < cLine) : OpR X (compareOp .NotEq) (rSameD false) := by
  intro pins s σ H x y v u Q I rx ry h
  obtain ⟨a, b, ks, ls, rfl, rfl, ea, eb, hlen, hp, q⟩ := h
  obtain rfl : v = Value.ref a := rx
  obtain rfl : u = Value.ref b := ry
  obtain ⟨_, ya, va, ra, da⟩ := (show ObjOk X.prog X.w H s.heap a (.dK ks) from I.hok a _ ea)
  obtain ⟨_, yb, vb, rb, db⟩ := (show ObjOk X.prog X.w H s.heap b (.dK ls) from I.hok b _ eb)
  have hl : va.length = vb.length := by rw [← ra.length, ← rb.length]; exact hlen
  exact PySem.W.keq_ne (knd := mixKind X.prog X.w) (r := true) ya yb da db hu (fun _ => hits_allR rb ra hp) (fin_bl I q (by simp [hl]))
end
/-! ### alike: by structure, down to flat values or to one and the same object; however deep (the stack has room) -/
/-- two lists, two tuples of alike items -/
def LkR (K : PySem.W.Frag) (H : Hp) (E : V → V → Prop) (x y : V) : Prop :=
  (∃ a b xs ys, x = .ref a ∧ y = .ref b ∧ SqL K H a xs ∧ SqL K H b ys ∧ Paired E xs ys) ∨ ∃ a b xs ys, x = .ref a ∧ y = .ref b ∧ SqT K H a xs ∧ SqT K H b ys ∧ Paired E xs ys
def Lk (K : PySem.W.Frag) (H : Hp) : Nat → V → V → Prop
  | 0 => fun _ _ => False
  | n + 1 => fun x y => (x = y ∧ flatB x = true) ∨ (∃ a, x = .ref a ∧ y = .ref a) ∨ LkR K H (Lk K H n) x y
theorem items_like {A : Around} {s : Shared} {F : V → V → Prop} (ih : ∀ x y v u, F x y → RelV x v → RelV y u → SeqAt.EqAt A s v u true) {xs ys : List V} (hp : Paired F xs ys) :
    ∀ {us ws : List Value}, Vals xs us → Vals ys ws → ∀ j (h1 : j < us.length) (h2 : j < ws.length), SeqAt.EqAt A s us[j] ws[j] true := by
  induction hp with
  | nil =>
    intro us ws r1 r2 j h1 h2
    cases r1
    exact absurd h1 (Nat.not_lt_zero j)
  | cons h _ k =>
    intro us ws r1 r2 j h1 h2
    cases r1 with
    | cons a1 b1 =>
      cases r2 with
      | cons a2 b2 =>
        cases j with
        | zero => exact ih _ _ _ _ h a1 a2
        | succ j => exact k b1 b2 j (Nat.lt_of_succ_lt_succ h1) (Nat.lt_of_succ_lt_succ h2)
section
variable {X : Cx} {pins : List (Addr × Obj)} {σ : L2.St} {H : Hp} {s : Shared}
/-- both, asked by == or by !=: R is what is told of lists and of tuples -/
theorem like_run {R : Around → Shared → Value → Value → Bool → Prop} {t : Bool} (I : Inv X pins σ H s) {A : Around} {F : V → V → Prop} (hu : A.units < cLine)
    (hl : ∀ {l b : Addr} {items items2 : Array Value} {e : Nat → Bool}, s.heap.IsList l items → s.heap.IsList b items2 → items.size = items2.size → (∀ j (h1 : j < items.size) (h2 : j < items2.size), SeqAt.EqAt A.in1 s items[j] items2[j] (e j)) →
      (List.range items.size).all e = true → R A s (.ref l) (.ref b) t)
    (ht : ∀ {l b : Addr} {items items2 : Array Value} {e : Nat → Bool}, s.heap.IsTuple l items → s.heap.IsTuple b items2 → (∀ j (h1 : j < items.size) (h2 : j < items2.size), SeqAt.EqAt A.in1 s items[j] items2[j] (e j)) →
      ((List.range (min items.size items2.size)).all e && items.size == items2.size) = true → R A s (.ref l) (.ref b) t)
    (ih : ∀ x y v u, F x y → RelV x v → RelV y u → SeqAt.EqAt A.in1 s v u true) {x y : V} {v u : Value} (h : LkR X.K H F x y) (rx : RelV x v) (ry : RelV y u) : R A s v u t := by
  rcases h with ⟨a, b, xs, ys, rfl, rfl, ha, hb, hp⟩ | ⟨a, b, xs, ys, rfl, rfl, ha, hb, hp⟩
  · cases (show v = Value.ref a from rx)
    cases (show u = Value.ref b from ry)
    obtain ⟨us, r1, p1, _⟩ := I.list ha
    obtain ⟨ws, r2, p2, _⟩ := I.list hb
    have hsz : us.toArray.size = ws.toArray.size := by
      rw [List.size_toArray, List.size_toArray, ← r1.length, ← r2.length]
      exact Paired.length hp
    refine hl (e := fun _ => true) p1.isList p2.isList hsz (fun j h1 h2 => ?_) (List.all_eq_true.mpr fun _ _ => rfl)
    have k := items_like ih hp r1 r2 j (by simpa using h1) (by simpa using h2)
    simpa using k
  · cases (show v = Value.ref a from rx)
    cases (show u = Value.ref b from ry)
    obtain ⟨us, r1, p1, _⟩ := I.tuple ha
    obtain ⟨ws, r2, p2, _⟩ := I.tuple hb
    have hsz : us.toArray.size = ws.toArray.size := by
      rw [List.size_toArray, List.size_toArray, ← r1.length, ← r2.length]
      exact Paired.length hp
    refine ht (e := fun _ => true) p1 p2 (fun j h1 h2 => ?_) ?_
    · have k := items_like ih hp r1 r2 j (by simpa using h1) (by simpa using h2)
      simpa using k
    · rw [Bool.and_eq_true]
      exact ⟨List.all_eq_true.mpr fun _ _ => rfl, by simpa using hsz⟩
theorem lk_eqAt (I : Inv X pins σ H s) : ∀ (n : Nat) (A : Around), A.units + n < cLine → ∀ (x y : V) (v u : Value), Lk X.K H n x y → RelV x v → RelV y u → SeqAt.EqAt A s v u true
  | 0, _, _, _, _, _, _, h, _, _ => (show False from h).elim
  | n + 1, A, hu, x, y, v, u, h, rx, ry => by
    rcases h with ⟨rfl, f⟩ | ⟨a, rfl, rfl⟩ | h
    · exact eqAt_same rx ry f
    · cases (show v = Value.ref a from rx)
      cases (show u = Value.ref a from ry)
      exact SeqAt.EqAt.same _
    · have hu1 : A.units < cLine := by omega
      have step : SeqAt.RcAt A s v u true := like_run (R := SeqAt.RcAt) I hu1 (fun h1 h2 h3 h4 h5 => h5 ▸ SeqAt.RcAt.lists h1 h2 h3 hu1 h4) (fun h1 h2 h4 h5 => h5 ▸ SeqAt.RcAt.tuples h1 h2 hu1 h4)
        (lk_eqAt I n A.in1 (by show A.units + 1 + n < cLine; omega)) h rx ry
      obtain ⟨a, b, rfl, rfl⟩ : ∃ a b, x = .ref a ∧ y = .ref b := by
        rcases h with ⟨a, b, _, _, e1, e2, _⟩ | ⟨a, b, _, _, e1, e2, _⟩
        · exact ⟨a, b, e1, e2⟩
        · exact ⟨a, b, e1, e2⟩
      cases (show v = Value.ref a from rx)
      cases (show u = Value.ref b from ry)
      by_cases e : a = b
      · subst e
        exact SeqAt.EqAt.same _
      · exact SeqAt.EqAt.of_refs e step
end
section
variable {X : Cx}
/-- a == b, a != b of two lists, two tuples that are alike -/
def rLikeN (K : PySem.W.Frag) (N : Nat) (t : Bool) : R2 := fun x y H Q => ∃ n, n ≤ N ∧ LkR K H (Lk K H n) x y ∧ Q (.bl t) H
abbrev rLike (K : PySem.W.Frag) (t : Bool) : R2 := rLikeN K 150 t
theorem op_eqLike {N : Nat} (hu : X.A.units + (N + 50) < cLine) : OpR X (compareOp .Eq) (rLikeN X.K N true) := by
  intro pins s σ H x y v u Q I rx ry h
  obtain ⟨n, hn, h, q⟩ := h
  have hu1 : X.A.units < cLine := by omega
  have step : SeqAt.RcAt X.A s v u true := like_run (R := SeqAt.RcAt) I hu1 (fun h1 h2 h3 h4 h5 => h5 ▸ SeqAt.RcAt.lists h1 h2 h3 hu1 h4) (fun h1 h2 h4 h5 => h5 ▸ SeqAt.RcAt.tuples h1 h2 hu1 h4)
    (lk_eqAt I n X.A.in1 (by show X.A.units + 1 + n < cLine; omega)) h rx ry
  exact step X.prog X.w X.xe _ ⟨.bl true, H, I, rfl, q⟩
theorem op_neLike {N : Nat} (hu : X.A.units + (N + 50) < cLine) : OpR X (compareOp .NotEq) (rLikeN X.K N false) := by
  intro pins s σ H x y v u Q I rx ry h
  obtain ⟨n, hn, h, q⟩ := h
  have hu1 : X.A.units < cLine := by omega
  have step : SeqAt.RcNeAt X.A s v u false := like_run (R := SeqAt.RcNeAt) I hu1
    (fun h1 h2 h3 h4 h5 => by have := SeqAt.RcNeAt.lists h1 h2 h3 hu1 h4; rw [h5] at this; exact this) (fun h1 h2 h4 h5 => by have := SeqAt.RcNeAt.tuples h1 h2 hu1 h4; rw [h5] at this; exact this)
    (lk_eqAt I n X.A.in1 (by show X.A.units + 1 + n < cLine; omega)) h rx ry
  exact step X.prog X.w X.xe _ ⟨.bl false, H, I, rfl, q⟩
end
section
variable {X : Cx}
/-- two lists of unlike lengths -/
def rLens (K : PySem.W.Frag) (t : Bool) : R2 := fun x y H Q => ∃ a b xs ys, x = .ref a ∧ y = .ref b ∧ SqL K H a xs ∧ SqL K H b ys ∧ xs.length ≠ ys.length ∧ Q (.bl t) H
theorem op_eqLens (hu : X.A.units < cLine) : OpR X (compareOp .Eq) (rLens X.K false) := by
  intro pins s σ H x y v u Q I rx ry ⟨a, b, xs, ys, e1, e2, ha, hb, hn, q⟩
  subst e1
  subst e2
  cases (show v = Value.ref a from rx)
  cases (show u = Value.ref b from ry)
  obtain ⟨us, r1, p1, _⟩ := I.list ha
  obtain ⟨ws, r2, p2, _⟩ := I.list hb
  have e : (us.toArray.size != ws.toArray.size) = true := by rw [List.size_toArray, List.size_toArray, ← r1.length, ← r2.length]; simpa using hn
  exact (SeqAt.RcAt.lists_lengths p1.isList p2.isList e hu) X.prog X.w X.xe _ ⟨.bl false, H, I, rfl, q⟩
theorem op_neLens (hu : X.A.units < cLine) : OpR X (compareOp .NotEq) (rLens X.K true) := by
  intro pins s σ H x y v u Q I rx ry ⟨a, b, xs, ys, e1, e2, ha, hb, hn, q⟩
  subst e1
  subst e2
  cases (show v = Value.ref a from rx)
  cases (show u = Value.ref b from ry)
  obtain ⟨us, r1, p1, _⟩ := I.list ha
  obtain ⟨ws, r2, p2, _⟩ := I.list hb
  have e : (us.toArray.size != ws.toArray.size) = true := by rw [List.size_toArray, List.size_toArray, ← r1.length, ← r2.length]; simpa using hn
  exact (SeqAt.RcNeAt.lists_lengths p1.isList p2.isList e hu) X.prog X.w X.xe _ ⟨.bl true, H, I, rfl, q⟩
def rEqG (K : PySem.W.Frag) : R2 := fun x y H Q => rEq x y H Q ∨ rEqD K x y H Q ∨ rSameD true x y H Q ∨ rLike K true x y H Q ∨ rLens K false x y H Q
def rNeG (K : PySem.W.Frag) : R2 := fun x y H Q => rNe x y H Q ∨ rNeD K x y H Q ∨ rSameD false x y H Q ∨ rLike K false x y H Q ∨ rLens K true x y H Q
theorem op_eqG (hu : X.A.units + 200 < cLine) : OpR X (compareOp .Eq) (rEqG X.K) := op_eq.or ((op_eqD (by omega)).or ((op_eq_dictR (by omega)).or ((op_eqLike hu).or (op_eqLens (by omega)))))
theorem op_neG (hu : X.A.units + 200 < cLine) : OpR X (compareOp .NotEq) (rNeG X.K) := op_ne.or ((op_neD (by omega)).or ((op_ne_dictR (by omega)).or ((op_neLike hu).or (op_neLens (by omega)))))
theorem hu2_of {k : Nat} {A : Around} (hr : Room k A) : A.units + 200 < cLine := by have := hr.un; omega
/-- the same where there is more room: alike up to a thousand deep -/
def rEqB (K : PySem.W.Frag) : R2 := fun x y H Q => rEqG K x y H Q ∨ rLikeN K 1000 true x y H Q
def rNeB (K : PySem.W.Frag) : R2 := fun x y H Q => rNeG K x y H Q ∨ rLikeN K 1000 false x y H Q
abbrev rLtG : R2 := rI0 fun i j => .bl (decide (i < j))
abbrev rLeG : R2 := rI0 fun i j => .bl (decide (i ≤ j))
abbrev rGtG : R2 := rI0 fun i j => .bl (decide (j < i))
abbrev rGeG : R2 := rI0 fun i j => .bl (decide (j ≤ i))
/-- y in a tracked dict -/
def rInT (neg : Bool) : R2 := fun y x H Q => ∃ a o, x = .ref a ∧ DGet H a y o ∧ Q (.bl (if neg then !o.isSome else o.isSome)) H
theorem op_in_t (hu : X.A.units + 1 < cLine) : OpR X (compareOp .In) (rInT false) := by
  intro pins s σ H y x u v Q I ry rx h
  obtain ⟨a, o, rfl, g, q⟩ := h
  cases rx
  exact d_in hu I g ry fun s' I' => ⟨.bl o.isSome, H, I', rfl, q⟩
theorem op_notIn_t (hu : X.A.units + 1 < cLine) : OpR X (compareOp .NotIn) (rInT true) := by
  intro pins s σ H y x u v Q I ry rx h
  obtain ⟨a, o, rfl, g, q⟩ := h
  cases rx
  exact d_notIn hu I g ry fun s' I' => ⟨.bl (!o.isSome), H, I', rfl, q⟩
/-- the written dict at d holds z's value, or nothing -/
def KGet (K : PySem.W.Frag) (w : World) (d : Addr) (z : Str) (r : Option V) : Prop :=
  ∃ es n, KDict K w d es n ∧ ((r = none ∧ PySem.W.nsIn K d z = some none) ∨ ∃ u v, r = some v ∧ PySem.W.nsIn K d z = some (some u) ∧ RelV v u)
def rInK (K : PySem.W.Frag) (w : World) (neg : Bool) : R2 := fun y x H Q => ∃ z d r, y = .str z ∧ x = .ref d ∧ KGet K w d z r ∧ Q (.bl (if neg then !r.isSome else r.isSome)) H
theorem KGet.ns {K : PySem.W.Frag} {w : World} {d : Addr} {z : Str} {r : Option V} (h : KGet K w d z r) : ∃ es n r', KDict K w d es n ∧ PySem.W.nsIn K d z = some r' ∧ r'.isSome = r.isSome := by
  obtain ⟨es, n, D, ⟨rfl, e⟩ | ⟨u, v, rfl, e, _⟩⟩ := h
  · exact ⟨es, n, none, D, e, rfl⟩
  · exact ⟨es, n, some u, D, e, rfl⟩
theorem op_in_k : OpR X (compareOp .In) (rInK X.K X.w false) := by
  intro pins s σ H y x u v Q I ry rx h
  obtain ⟨z, d, r, rfl, rfl, g, q⟩ := h
  obtain ⟨es, n, r', D, e, e2⟩ := g.ns
  exact op_in_kd D pins s σ H _ _ u v Q I ry rx ⟨z, r', rfl, rfl, e, by rw [e2]; exact q⟩
theorem op_notIn_k : OpR X (compareOp .NotIn) (rInK X.K X.w true) := by
  intro pins s σ H y x u v Q I ry rx h
  obtain ⟨z, d, r, rfl, rfl, g, q⟩ := h
  obtain ⟨es, n, r', D, e, e2⟩ := g.ns
  exact op_notIn_kd D pins s σ H _ _ u v Q I ry rx ⟨z, r', rfl, rfl, e, by rw [e2]; exact q⟩
def rInS (neg : Bool) : R2 := fun x y H Q => ∃ i j, x = .str i ∧ y = .str j ∧ Q (.bl (if neg then !(!(Builtin.Str.occurrences j i 0 j.length 1).isEmpty) else !(Builtin.Str.occurrences j i 0 j.length 1).isEmpty)) H
theorem op_in_s : OpR X (compareOp .In) (rInS false) := op_in_str
theorem op_notIn_s : OpR X (compareOp .NotIn) (rInS true) := op_notIn_str
def rInG (K : PySem.W.Frag) (w : World) (neg : Bool) : R2 := fun x y H Q => rIn K neg x y H Q ∨ rInS neg x y H Q ∨ rInT neg x y H Q ∨ rInK K w neg x y H Q
theorem op_inG (hu : X.A.units + 1 < cLine) : OpR X (compareOp .In) (rInG X.K X.w false) := op_in_seq.or (op_in_s.or ((op_in_t hu).or op_in_k))
theorem op_notInG (hu : X.A.units + 1 < cLine) : OpR X (compareOp .NotIn) (rInG X.K X.w true) := op_notIn_seq.or (op_notIn_s.or ((op_notIn_t hu).or op_notIn_k))
/-! ### is -/
def rIsG (neg : Bool) : R2 := fun x y H Q => (y = .non ∧ Q (.bl (if neg then !decide (x = .non) else decide (x = .non))) H) ∨ (∃ a b : Bool, x = .bl a ∧ y = .bl b ∧ Q (.bl (if neg then !decide (a = b) else decide (a = b))) H)
theorem op_isG : OpR X (compareOp .Is) (rIsG false) := op_isN.or op_isBl
/-! ### len of anything -/
def rLenD : List V → Hp → VK → Prop := fun xs H Q => ∃ a kvs, xs = [.ref a] ∧ Rd H a (.dK kvs) ∧ Q (.int kvs.length) H
theorem call_lenK : CallR X (.builtin "len") rLenD := by
  intro pins s σ H xs us Q I r h
  obtain ⟨a, kvs, rfl, g, q⟩ := h
  obtain ⟨u, rfl, ru⟩ := vals1 r
  cases ru
  exact d_len I g fun t s' I' => ⟨.int kvs.length, H, I', ⟨t, rfl⟩, q⟩
def rLenG (K : PySem.W.Frag) : List V → Hp → VK → Prop := fun xs H Q => (∃ x n, xs = [x] ∧ LenV K x H n ∧ Q (.int n) H) ∨ rLenD xs H Q
theorem call_lenG : CallR X (.builtin "len") (rLenG X.K) := call_len.or call_lenK
/-! ### what is walked -/
def iOr (a b : TI) : TI := fun σ H R => a σ H R ∨ b σ H R
theorem piOr {tg e : Expr} {a b : TI} (ha : PI X tg e a) (hb : PI X tg e b) : PI X tg e (iOr a b) :=
  ⟨fun pins s σ H R I h => h.elim (ha.run pins s σ H R I) (hb.run pins s σ H R I)⟩
/-- a list, a tuple, a text -/
def iSeq (K : PySem.W.Frag) (te : TE) : TI := iOr (iList K te) (iOr (iTup K te) (iStr te))
theorem pi_seq {tg e : Expr} {te : TE} (h : PE X e te) : PI X tg e (iSeq X.K te) := piOr (pi_list h) (piOr (pi_tup h) (pi_str h))
end

/-! ### subscripts, slices, stores -/
section
variable {X : Cx}
def rGetT : R2 := fun x y H Q => ∃ a v, x = .ref a ∧ DGet H a y (some v) ∧ Q v H
theorem ix_dictT (hu : X.A.units + 1 < cLine) : IxR X rGetT := by
  intro value slice pins s σ H x y v u Q I rx ry h hs
  obtain ⟨a, z, rfl, g, q⟩ := h
  cases rx
  exact tail_any (dict_typeIs I g) PySem.F.slot_dict_getitem.lookup (d_getItem hu I g ry fun w' s3 I3 rw' => ⟨z, H, I3, rw', q⟩) hs
def rGetK (K : PySem.W.Frag) (w : World) : R2 := fun x y H Q => ∃ d z v, x = .ref d ∧ y = .str z ∧ KGet K w d z (some v) ∧ Q v H
theorem ix_dictK : IxR X (rGetK X.K X.w) := by
  intro value slice pins s σ H x y v u Q I rx ry h hs
  obtain ⟨d, z, r, rfl, rfl, ⟨es, n, D, ⟨e0, _⟩ | ⟨u0, v0, e0, e1, r0⟩⟩, q⟩ := h
  · cases e0
  · cases e0
    have ry' := ry
    cases rx
    exact tail_any (kd_type D I) PySem.F.slot_dict_getitem.lookup (op_item_kd D pins s σ H (.ref d) (.str z) (.ref d) u Q I rfl ry' ⟨z, u0, r, rfl, rfl, e1, r0, q⟩) hs
def rIxG (K : PySem.W.Frag) (w : World) : R2 := fun x y H Q => rIx K x y H Q ∨ rGetT x y H Q ∨ rGetK K w x y H Q
theorem ix_any (hu : X.A.units + 1 < cLine) : IxR X (rIxG X.K X.w) := ix_seq.or ((ix_dictT hu).or ix_dictK)
def tIxG (K : PySem.W.Frag) (w : World) (ta tb : TE) : TE := tOp (rIxG K w) ta tb
theorem pe_ixG {a b : Expr} {ta tb : TE} {pos : Pos} (hu : X.A.units + 1 < cLine) (ha : PE X a ta) (hb : PE X b tb) (hs : PlainIx b) : PE X (.Subscript a b pos) (tIxG X.K X.w ta tb) := pe_ix (ix_any hu) ha hb hs
def rSlG (K : PySem.W.Frag) : V → Option Int → Option Int → Hp → VK → Prop := fun x lo hi H Q => (∃ a xs, x = .ref a ∧ SqL K H a xs ∧ New H (.lst (cutV xs lo hi)) fun p H' => Q (.ref p) H') ∨
  (∃ a xs, x = .ref a ∧ SqT K H a xs ∧ (HT.sIx xs.length 0 lo = 0 ∧ HT.sIx xs.length xs.length hi = xs.length → Q (.ref a) H) ∧ (¬ (HT.sIx xs.length 0 lo = 0 ∧ HT.sIx xs.length xs.length hi = xs.length) → New H (.tup (cutV xs lo hi)) fun p H' => Q (.ref p) H')) ∨ rSlS x lo hi H Q
theorem sl_any : SlR X (rSlG X.K) := slr_imp (sl_list.or (sl_tupA.or sl_str)) fun x lo hi H Q h => by
  rcases h with ⟨a, xs, e, h, n⟩ | ⟨a, xs, e, h, n1, n2⟩ | h
  · exact .inl ⟨a, xs, e, h, n.at⟩
  · exact .inr (.inl ⟨a, xs, e, h, n1, fun z => (n2 z).at⟩)
  · exact .inr (.inr h)
def tRevG (K : PySem.W.Frag) (te : TE) : TE := fun σ H Q => te σ H fun x H1 => ∃ a xs, x = .ref a ∧ SqL K H1 a xs ∧ New H1 (.lst xs.reverse) fun p H' => Q (.ref p) H'
def rSetD : TSet := fun o i v H Q => ∃ a H', o = .ref a ∧ DPut H a i v H' ∧ Q H'
theorem set_dict (hu : X.A.units + 1 < cLine) : PSet X rSetD := by
  intro pins s σ H o i v ov iv u Q I ro ri rv h
  obtain ⟨a, H', rfl, g, q⟩ := h
  cases ro
  exact d_setItem hu I g ri rv fun s' I' => ⟨H', I', q⟩
def rSetG : TSet := fun o i v H Q => (∃ p xs k j, o = .ref p ∧ i = .int k ∧ H p = some (.lst xs) ∧ ixN xs.length k = some j ∧ Put H p (.lst (xs.set j v)) Q) ∨
  (∃ a kvs k, o = .ref a ∧ H a = some (.dK kvs) ∧ i = kV k ∧ kvs.length < sizeLine ∧ Put H a (.dK (putK kvs k v)) Q)
theorem set_any (hu : X.A.units + 1 < cLine) : PSet X rSetG := by
  intro pins s σ H o i v ov iv u Q I ro ri rv h
  rcases h with ⟨p, xs, k, j, e1, e2, h1, h2, q⟩ | ⟨a, kvs, k, e1, h1, e2, hl, q⟩
  · exact set_list pins s σ H o i v ov iv u Q I ro ri rv ⟨p, xs, k, j, e1, e2, h1, h2, q.at⟩
  · exact set_dict hu pins s σ H o i v ov iv u Q I ro ri rv ⟨a, _, e1, .inl ⟨kvs, k, h1, e2, hl, rfl⟩, q.at⟩
/-! ### tests by truth -/
def tTru (K : PySem.W.Frag) (ta : TE) : TT := fun σ H Q => ta σ H fun x H' => ∃ k, TruV K x H' k ∧ Q k H'
theorem pt_tru {a : Expr} {ta : TE} (ha : PE X a ta) (he : ∀ whole, isTrue a X.env whole = (do let v ← whole; standAt a.pos; holding [v] (truthy v))) : PT X a (tTru X.K ta) := pt_truth ha he
/-! ### builtins -/
abbrev rAbsG : List V → Hp → VK → Prop := fun xs H Q => ∃ i, xs = [.int i] ∧ Q (.int (if i < 0 then -i else i)) H
abbrev rMax2 : List V → Hp → VK → Prop := fun xs H Q => ∃ i j, xs = [.int i, .int j] ∧ Q (.int (if j > i then j else i)) H
abbrev rMin2 : List V → Hp → VK → Prop := fun xs H Q => ∃ i j, xs = [.int i, .int j] ∧ Q (.int (if j < i then j else i)) H
def rIntS : List V → Hp → VK → Prop := fun xs H Q => ∃ a n, xs = [.str a] ∧ PySem.intText? a = some n ∧ a.length ≤ 640 ∧ Q (.int n) H
def rIntG : List V → Hp → VK → Prop := fun xs H Q => (∃ i, xs = [.int i] ∧ Q (.int i) H) ∨ ∃ k, xs = [.bl k] ∧ Q (.int (if k then 1 else 0)) H
abbrev rBool1 : List V → Hp → VK → Prop := fun xs H Q => (∃ i, xs = [.int i] ∧ Q (.bl (i != 0)) H) ∨ ∃ k, xs = [.bl k] ∧ Q (.bl k) H
abbrev rStrG : List V → Hp → VK → Prop := fun xs H Q => ∃ i, xs = [.int i] ∧ i.natAbs.log2 < 1920 ∧ Q (.str (toString i)) H
def rListG (K : PySem.W.Frag) : List V → Hp → VK → Prop := fun xs H Q => (∃ p ys, xs = [.ref p] ∧ (SqL K H p ys ∨ SqT K H p ys) ∧ New H (.lst ys) fun l H' => Q (.ref l) H') ∨
  ∃ p kvs, xs = [.ref p] ∧ H p = some (.dK kvs) ∧ New H (.lst (kvs.map fun kv => kV kv.1)) fun q H' => Q (.ref q) H'
theorem call_listG (hc : X.calm = true) : CallR X (.type "list") (rListG X.K) := callr_imp (CallR.or call_list_of (call_list_dK hc)) fun xs H Q h => by
  rcases h with ⟨p, ys, e, h, n⟩ | ⟨p, kvs, e, h, n⟩
  · exact .inl ⟨p, ys, e, h, n.at⟩
  · exact .inr ⟨p, kvs, e, h, n.at⟩
def rTupleG (K : PySem.W.Frag) : List V → Hp → VK → Prop := fun xs H Q => ∃ p ys, xs = [.ref p] ∧ ((SqL K H p ys ∧ New H (.tup ys) fun l H' => Q (.ref l) H') ∨ (SqT K H p ys ∧ Q (.ref p) H))
theorem call_tupleG : CallR X (.type "tuple") (rTupleG X.K) := callr_imp call_tuple_of fun xs H Q ⟨p, ys, e, h⟩ => ⟨p, ys, e, h.imp (fun ⟨a, n⟩ => ⟨a, n.at⟩) id⟩
/-! ### methods of lists and texts -/
def rAppendG : V → List V → Hp → VK → Prop := fun x vs H Q => ∃ l xs y, x = .ref l ∧ vs = [y] ∧ H l = some (.lst xs) ∧ xs.length < sizeLine ∧ Put H l (.lst (xs ++ [y])) fun H' => Q .non H'
def rExtendG : V → List V → Hp → VK → Prop := fun x vs H Q => ∃ l b xs zs, x = .ref l ∧ vs = [.ref b] ∧ H l = some (.lst xs) ∧ H b = some (.lst zs) ∧ xs.length + zs.length ≤ sizeLine ∧ Put H l (.lst (xs ++ zs)) fun H' => Q .non H'
theorem mt_extendG : MtR X "list.extend" rExtendG := mtr_imp mt_extend fun x xs H Q ⟨l, b, ys, zs, e1, e2, h, h2, hl, q⟩ => ⟨l, b, ys, zs, e1, e2, h, h2, hl, q.at⟩
def rPopG : V → List V → Hp → VK → Prop := fun x vs H Q => ∃ l xs y, x = .ref l ∧ vs = [] ∧ H l = some (.lst xs) ∧ xs[xs.length - 1]? = some y ∧ Put H l (.lst xs.dropLast) fun H' => Q y H'
theorem mt_popG : MtR X "list.pop" rPopG := mtr_imp mt_pop fun x xs H Q ⟨l, ys, y, e1, e2, h, hl, q⟩ => ⟨l, ys, y, e1, e2, h, hl, q.at⟩
abbrev rIsiG := rIsi
theorem call_isiG : CallR X (.builtin "isinstance") (rIsiG X.K) := call_isi
def rSplitG : V → List V → Hp → VK → Prop := fun x xs H Q => ∃ a b, x = .str a ∧ xs = [.str b] ∧ (b.length == 0) = false ∧ a.length + 2 ≤ sizeLine ∧ New H (.lst ((Txt.split a b).map V.str)) fun p H' => Q (.ref p) H'
abbrev rJoinG (K : PySem.W.Frag) : V → List V → Hp → VK → Prop := fun x xs H Q => ∃ a p, ∃ ys : List Str, x = .str a ∧ xs = [.ref p] ∧ (SqL K H p (ys.map V.str) ∨ SqT K H p (ys.map V.str)) ∧
      (ys.map (·.length)).sum + ys.length * a.length ≤ 16777216 ∧ Q (.str (Txt.join a ys)) H
end
/-! ### calls of the text's own defs -/
/-- a def that may be called by its name (no exception leaves it) -/
structure Cal (P : Program) (w : World) (K : PySem.W.Frag) (mg : Str → Option Value) (base : Heap) (k : Nat) (x : Str) (sp : Sp) : Prop where
  ex : ∃ (f : Addr) (fd : FuncData) (ps : List Str), FnOk P w K mg base CX0 k f fd ps sp ∧ mg x = some (.ref f) ∧ PySem.W.keepIn K (.ref f) = true ∧ Binds K fd ps []
section
variable {P : Program} {w : World} {K : PySem.W.Frag} {mg : Str → Option Value} {base : Heap}
theorem Cal.mono {j k : Nat} {x : Str} {sp : Sp} (c : Cal P w K mg base j x sp) (h : j ≤ k) : Cal P w K mg base k x sp := by
  obtain ⟨f, fd, ps, F, a, b, d⟩ := c.ex
  exact ⟨f, fd, ps, F.mono h, a, b, d⟩
theorem Cal.imp {k : Nat} {x : Str} {sp sp' : Sp} (c : Cal P w K mg base k x sp) (h : ∀ vs H Q E, sp' vs H Q E → sp vs H Q E) : Cal P w K mg base k x sp' := by
  obtain ⟨f, fd, ps, F, a, b, d⟩ := c.ex
  exact ⟨f, fd, ps, F.imp h, a, b, d⟩
theorem cal_mk {x : Str} {params : Arguments} {body : List Stmt} {scope : Scope} {f : Addr} {fd : FuncData} {N ps : List Str} {k : Nat} {sp : Sp} (F : FunD K x x params body scope [] [] f fd) (hm : mg x = some (.ref f)) (S : FnScope N ps scope)
    (b : Binds K fd ps []) (len : ∀ vs H Q E, sp vs H Q E → vs.length = ps.length)
    (hbody : ∀ (cdv : Value) (A : Around) (outer : List Env) (s : Shared) (H : Hp) (vs : List V) (Q : VK) (E : XK), Room k (A.deeper (envOfC x scope s.heap.objs.size f cdv)) → sp vs H Q E →
      ∃ t, PSs (cxOf CX0 P w K mg base N x scope f cdv A outer s H E) body t ∧ t { nx := fun _ H' => Q .non H', rt := Q } (start N vs) H) : Cal P w K mg base (k + 1) x sp :=
  ⟨f, fd, ps, F.ok S len hbody, hm, F.kp, b⟩
end
section
variable {X : Cx} {k : Nat} {x : Str} {sp : Sp} {p pos : Pos} {e : Expr} {es : List Expr} {t : TA}
theorem pe_cal (c : Cal X.prog X.w X.K X.mg X.base k x sp) (hr : Room k X.A) (hg : Gl X x) (ha : PA X (e :: es) t)
    (hdb : (x == ("__debug__" : Str)) = false := by decide) (he : starEach (e :: es) X.env = (false, eval e X.env) :: starEach es X.env := by rfl) (hpl : (backTo pos (starEach es X.env)).any (·.1) = false := by rfl) :
    PE X (.Call (.Name x p) (e :: es) [] pos) (tCall sp [] E0 t) := by
  obtain ⟨f, fd, ps, F, a, b, d⟩ := c.ex
  exact pe_call F hr hg a b d .nil pass0 ha hdb he hpl
end
/-- the slots at the entry: m of them -/
def startN (m : Nat) (vs : List V) : L2.St := vs.map some ++ List.replicate (m - vs.length) none
/-- what of a def is shown without the text: its reading, run at its parameters' values, keeps its promise -/
structure PureOk (n : Nat) (sp : Sp) (t : TS) (m : Nat) : Prop where
  len : ∀ vs H Q E, sp vs H Q E → vs.length = n
  run : ∀ vs H Q E, sp vs H Q E → t { nx := fun _ H' => Q .non H', rt := Q } (startN m vs) H
/-- a written table with text keys -/
def KTab (K : PySem.W.Frag) (w : World) (d : Addr) (kvs : List (Str × V)) : Prop := ∀ z : Str, KGet K w d z ((kvs.find? fun q => decide (q.1 = z)).map (·.2))

/-! ### readings, step by step -/
section
variable {K : PySem.W.Frag} {w : World} {D : Ends} {σ σ' : L2.St} {H : Hp} {Q : VK} {v x y : V} {i j : Int} {n : Nat} {ta tb tc te : TE} {t u : TS} {p a b : Addr} {xs ys : List V} {s z : Str}
theorem g_seq (h : t { D with nx := u D } σ H) : tSeq t u D σ H := h
theorem g_next (h : D.nx σ H) : tNext D σ H := h
theorem g_ret (h : te σ H D.rt) : tRet te D σ H := h
theorem g_drop (h : te σ H fun _ H1 => D.nx σ H1) : tDrop te D σ H := h
theorem g_ifs {c : TT} (h : c σ H fun b H1 => if b = true then t D σ H1 else u D σ H1) : tIfS c t u D σ H := h
theorem g_asg {g : TG} (h : te σ H fun x H1 => g x σ H1 D.nx) : tAsg te g D σ H := h
theorem g_par {k l : Nat} {ta : TA} (h : ta σ H fun vs H1 => ∃ v w, vs = [v, w] ∧ D.nx ((σ.set k (some v)).set l (some w)) H1) : tPar k l ta D σ H := h
theorem g_name {Q : L2.St → Hp → Prop} {k : Nat} (h : σ.set k (some v) = σ') (q : Q σ' H) : gName k v σ H Q := by subst h; exact q
theorem g_sub {to ti : TE} {ts : TSet} {Q : L2.St → Hp → Prop} (h : to σ H fun o H1 => ti σ H1 fun i H2 => ts o i v H2 fun H3 => Q σ H3) : gSub to ti ts v σ H Q := h
theorem g_var {k : Nat} (h : σ[k]? = some (some v)) (q : Q v H) : tVar k σ H Q := ⟨v, h, q⟩
theorem g_c (q : Q v H) : tC v σ H Q := q
theorem g_op {r : R2} (h : ta σ H fun x H1 => tb σ H1 fun y H2 => r x y H2 Q) : tOp r ta tb σ H Q := h
theorem g_ixop (h : ta σ H fun x H1 => tb σ H1 fun y H2 => rIxG K w x y H2 Q) : tIxG K w ta tb σ H Q := h
theorem g_un {r : V → Hp → VK → Prop} (h : ta σ H fun x H1 => r x H1 Q) : tUn r ta σ H Q := h
theorem g_neg (q : Q (.int (-i)) H) : rU (fun i => .int (-i)) (.int i) H Q := ⟨i, rfl, q⟩
theorem g_test {Q : Bool → Hp → Prop} (h : te σ H fun x H' => ∃ k, x = .bl k ∧ Q k H') : tTest te σ H Q := h
theorem g_not {c : TT} {Q : Bool → Hp → Prop} (h : c σ H fun c H1 => Q (!c) H1) : tNot c σ H Q := h
theorem g_and {c d : TT} {Q : Bool → Hp → Prop} (h : c σ H fun c H1 => if c = true then d σ H1 Q else Q false H1) : tAnd c d σ H Q := h
theorem g_or {c d : TT} {Q : Bool → Hp → Prop} (h : c σ H fun c H1 => if c = true then Q true H1 else d σ H1 Q) : tOr c d σ H Q := h
theorem g_tru {Q : Bool → Hp → Prop} (h : ta σ H fun x H' => ∃ k, TruV K x H' k ∧ Q k H') : tTru K ta σ H Q := h
theorem g_trubl {R : Bool → Prop} {k : Bool} (q : R k) : ∃ k', TruV K (.bl k) H k' ∧ R k' := ⟨k, rfl, q⟩
theorem g_truint {R : Bool → Prop} (q : R (i != 0)) : ∃ k', TruV K (.int i) H k' ∧ R k' := ⟨_, rfl, q⟩
theorem g_bl {R : Bool → Prop} {k : Bool} (q : R k) : ∃ k', V.bl k = .bl k' ∧ R k' := ⟨k, rfl, q⟩
theorem g_ifx {c : TT} (h : c σ H fun c H1 => if c = true then ta σ H1 Q else tb σ H1 Q) : tIf c ta tb σ H Q := h
theorem g_andT (h : ta σ H fun x H1 => ∃ k, TruV K x H1 k ∧ if k = true then tb σ H1 Q else Q x H1) : tAndT K ta tb σ H Q := h
theorem g_orT (h : ta σ H fun x H1 => ∃ k, TruV K x H1 k ∧ if k = true then Q x H1 else tb σ H1 Q) : tOrT K ta tb σ H Q := h
theorem g_notT (h : ta σ H fun x H1 => ∃ k, TruV K x H1 k ∧ Q (.bl (!k)) H1) : tNotT K ta σ H Q := h
theorem g_nil {Q : List V → Hp → Prop} (q : Q [] H) : tNil σ H Q := q
theorem g_cons {Q : List V → Hp → Prop} {tr : TA} (h : te σ H fun x H1 => tr σ H1 fun xs H2 => Q (x :: xs) H2) : tCons te tr σ H Q := h
theorem g_call {sp : Sp} {E : XK} {t : TA} (h : t σ H fun vs H1 => sp (vs ++ []) H1 Q E) : tCall sp [] E t σ H Q := h
theorem g_cb {r : List V → Hp → VK → Prop} {t : TA} (h : t σ H fun vs H1 => r vs H1 Q) : tCB r t σ H Q := h
theorem g_tup {t : TA} (h : t σ H fun xs H1 => xs.length ≤ sizeLine ∧ New H1 (.tup xs) fun p H2 => Q (.ref p) H2) : tTupN t σ H Q := h
theorem g_lst {t : TA} (h : t σ H fun xs H1 => xs.length ≤ sizeLine ∧ New H1 (.lst xs) fun p H2 => Q (.ref p) H2) : tLstN t σ H Q := h
theorem g_len {R : Prop} (hl : xs.length ≤ sizeLine) (q : R) : xs.length ≤ sizeLine ∧ R := ⟨hl, q⟩
theorem g_dnew (h : New H (.dK []) fun p H2 => Q (.ref p) H2) : tDNewKN σ H Q := h
theorem g_disp {trs : List (TE × TE)} (h : New H (.dK []) fun p H1 => tPairs trs σ H1 fun ps H2 => H2 p = some (.dK []) ∧ ∃ kvs : List (Key × V), ps = kvs.map (fun kv => (kV kv.1, kv.2)) ∧ kvs.length ≤ 15 ∧ Put H2 p (.dK (mergeK [] kvs)) fun H' => Q (.ref p) H') : tDispN trs σ H Q := h
theorem g_pnil {Q : List (V × V) → Hp → Prop} (q : Q [] H) : tPairs [] σ H Q := q
theorem g_pcons {Q : List (V × V) → Hp → Prop} {r : List (TE × TE)} (h : ta σ H fun x H1 => tb σ H1 fun y H2 => tPairs r σ H2 fun ps H3 => Q ((x, y) :: ps) H3) : tPairs ((ta, tb) :: r) σ H Q := h
theorem g_get2 (h : ta σ H fun x H1 => ∃ a, x = .ref a ∧ IsD H1 a ∧ tb σ H1 fun y H2 => tc σ H2 fun z H3 => ∃ o, DGet H3 a y o ∧ Q (o.getD z) H3) : tDGet2 ta tb tc σ H Q := h
theorem g_bm {T : String} {r : V → List V → Hp → VK → Prop} {to : TE} {t : TA} (h : to σ H fun x H1 => tyV K T x H1 ∧ t σ H1 fun xs H2 => r x xs H2 Q) : tBM K T r to t σ H Q := h
theorem g_bm0 {T : String} {r : V → List V → Hp → VK → Prop} {to : TE} (h : to σ H fun x H1 => tyV K T x H1 ∧ r x [] H1 Q) : tBM0 K T r to σ H Q := h
theorem g_tyl {R : Prop} (h : SqL K H a xs) (q : R) : tyV K "list" (.ref a) H ∧ R := ⟨.inl ⟨rfl, xs, h⟩, q⟩
theorem g_m1 {r : V → List V → Hp → VK → Prop} {to te : TE} (h : to σ H fun x H1 => (∃ a, x = .str a) ∧ te σ H1 fun y H2 => r x [y] H2 Q) : tM1 r to te σ H Q := h
theorem g_isstr {R : Prop} (q : R) : (∃ a, V.str s = .str a) ∧ R := ⟨⟨s, rfl⟩, q⟩
/-- the operators by kinds -/
theorem g_addI (q : Q (.int (i + j)) H) : rAddG K (.int i) (.int j) H Q := .inl ⟨i, j, rfl, rfl, q⟩
theorem g_addL (h1 : H a = some (.lst xs)) (h2 : H b = some (.lst ys)) (hl : xs.length + ys.length ≤ sizeLine) (q : New H (.lst (xs ++ ys)) fun p H' => Q (.ref p) H') : rAddG K (.ref a) (.ref b) H Q := .inr (.inr (.inl ⟨a, b, xs, ys, rfl, rfl, h1, h2, hl, q⟩))
theorem g_subI (q : Q (.int (i - j)) H) : rSubG (.int i) (.int j) H Q := ⟨i, j, rfl, rfl, q⟩
theorem g_mulI (hc : CMul i j) (q : Q (.int (i * j)) H) : rMulG (.int i) (.int j) H Q := .inl ⟨i, j, rfl, rfl, hc, q⟩
theorem g_divI (hc : CDivW i j) (q : Q (.int (i / j)) H) : rDivG (.int i) (.int j) H Q := ⟨i, j, rfl, rfl, hc, q⟩
theorem g_modI (hc : 0 < j) (q : Q (.int (i % j)) H) : rModG (.int i) (.int j) H Q := ⟨i, j, rfl, rfl, hc, q⟩
theorem g_powI (hc : CPow i j) (q : Q (.int (i ^ j.toNat)) H) : rPowG (.int i) (.int j) H Q := ⟨i, j, rfl, rfl, hc, q⟩
theorem g_ltI (q : Q (.bl (decide (i < j))) H) : rLtG (.int i) (.int j) H Q := ⟨i, j, rfl, rfl, q⟩
theorem g_leI (q : Q (.bl (decide (i ≤ j))) H) : rLeG (.int i) (.int j) H Q := ⟨i, j, rfl, rfl, q⟩
theorem g_gtI (q : Q (.bl (decide (j < i))) H) : rGtG (.int i) (.int j) H Q := ⟨i, j, rfl, rfl, q⟩
theorem g_geI (q : Q (.bl (decide (j ≤ i))) H) : rGeG (.int i) (.int j) H Q := ⟨i, j, rfl, rfl, q⟩
theorem g_eqI (q : Q (.bl (decide (i = j))) H) : rEqG K (.int i) (.int j) H Q := .inl ⟨rfl, by rw [show decide (V.int i = V.int j) = decide (i = j) from by simp]; exact q⟩
theorem g_eqS (q : Q (.bl (decide (s = z))) H) : rEqG K (.str s) (.str z) H Q := .inl ⟨rfl, by rw [show decide (V.str s = V.str z) = decide (s = z) from by simp]; exact q⟩
theorem g_neI (q : Q (.bl (!decide (i = j))) H) : rNeG K (.int i) (.int j) H Q := .inl ⟨rfl, by rw [show decide (V.int i = V.int j) = decide (i = j) from by simp]; exact q⟩
theorem g_neS (q : Q (.bl (!decide (s = z))) H) : rNeG K (.str s) (.str z) H Q := .inl ⟨rfl, by rw [show decide (V.str s = V.str z) = decide (s = z) from by simp]; exact q⟩
theorem g_neD {d e : PyData} (h1 : Dp K H x d) (h2 : Dp K H y e) (h3 : SeqAt.shaped d = true) (h4 : SeqAt.shaped e = true) (q : Q (.bl (!PyData.eqv d e)) H) : rNeG K x y H Q := .inr (.inl ⟨d, e, h1, h2, h3, h4, q⟩)
theorem g_ixL (h : SqL K H p xs) (e : atI xs i = some v) (q : Q v H) : rIxG K w (.ref p) (.int i) H Q := .inl (.inl ⟨p, xs, i, v, rfl, rfl, h, e, q⟩)
theorem g_ixT (h : SqT K H p xs) (e : atI xs i = some v) (q : Q v H) : rIxG K w (.ref p) (.int i) H Q := .inl (.inr (.inl ⟨p, xs, i, v, rfl, rfl, h, e, q⟩))
theorem g_ixD {kvs : List (Key × V)} {k : Key} (h : H p = some (.dK kvs)) (hx : x = kV k) (e : valV kvs k = some v) (q : Q v H) : rIxG K w (.ref p) x H Q := .inr (.inl ⟨p, v, rfl, .inl ⟨kvs, k, .of h, hx, e.symm⟩, q⟩)
theorem g_setL {R : Hp → Prop} {k : Nat} (h : H p = some (.lst xs)) (e : ixN xs.length i = some k) (q : Put H p (.lst (xs.set k v)) R) : rSetG (.ref p) (.int i) v H R := .inl ⟨p, xs, i, k, rfl, rfl, h, e, q⟩
theorem g_setK {R : Hp → Prop} {kvs : List (Key × V)} {k : Key} (h : H p = some (.dK kvs)) (e : x = kV k) (hl : kvs.length < sizeLine) (q : Put H p (.dK (putK kvs k v)) R) : rSetG (.ref p) x v H R := .inr ⟨p, kvs, k, rfl, h, e, hl, q⟩
theorem g_lenL (h : SqL K H p xs) (q : Q (.int xs.length) H) : rLenG K [.ref p] H Q := .inl ⟨.ref p, xs.length, rfl, .inl ⟨xs, h, rfl⟩, q⟩
theorem g_lenT (h : SqT K H p xs) (q : Q (.int xs.length) H) : rLenG K [.ref p] H Q := .inl ⟨.ref p, xs.length, rfl, .inr ⟨xs, h, rfl⟩, q⟩
theorem g_abs (q : Q (.int i.natAbs) H) : rAbsG [.int i] H Q := ⟨i, rfl, by rw [show (if i < 0 then -i else i) = (i.natAbs : Int) from by split <;> omega]; exact q⟩
theorem g_max2 (q : Q (.int (max i j)) H) : rMax2 [.int i, .int j] H Q := ⟨i, j, rfl, by rw [show (if j > i then j else i) = max i j from by split <;> omega]; exact q⟩
theorem g_min2 (q : Q (.int (min i j)) H) : rMin2 [.int i, .int j] H Q := ⟨i, j, rfl, by rw [show (if j < i then j else i) = min i j from by split <;> omega]; exact q⟩
theorem g_intI (q : Q (.int i) H) : rIntG [.int i] H Q := .inl ⟨i, rfl, q⟩
theorem g_intB {k : Bool} (q : Q (.int (if k then 1 else 0)) H) : rIntG [.bl k] H Q := .inr ⟨k, rfl, q⟩
theorem g_listL (h : SqL K H p xs) (q : New H (.lst xs) fun l H' => Q (.ref l) H') : rListG K [.ref p] H Q := .inl ⟨p, xs, rfl, .inl h, q⟩
theorem g_listT (h : SqT K H p xs) (q : New H (.lst xs) fun l H' => Q (.ref l) H') : rListG K [.ref p] H Q := .inl ⟨p, xs, rfl, .inr h, q⟩
theorem g_tupleL (h : SqL K H p xs) (q : New H (.tup xs) fun l H' => Q (.ref l) H') : rTupleG K [.ref p] H Q := ⟨p, xs, rfl, .inl ⟨h, q⟩⟩
theorem g_tupleT (h : SqT K H p xs) (q : Q (.ref p) H) : rTupleG K [.ref p] H Q := ⟨p, xs, rfl, .inr ⟨h, q⟩⟩
theorem g_extend (h : H a = some (.lst xs)) (h2 : H b = some (.lst ys)) (hl : xs.length + ys.length ≤ sizeLine) (q : Put H a (.lst (xs ++ ys)) fun H' => Q .non H') : rExtendG (.ref a) [.ref b] H Q := ⟨a, b, xs, ys, rfl, rfl, h, h2, hl, q⟩
theorem g_pop (h : H a = some (.lst (xs ++ [v]))) (q : Put H a (.lst xs) fun H' => Q v H') : rPopG (.ref a) [] H Q := ⟨a, xs ++ [v], v, rfl, rfl, h, by simp, by simpa using q⟩
/-- a common rest of several ways -/
structure Rest (B : Prop) : Prop where
  out : B
theorem g_cut {A B : Prop} (f : Rest B → A) (b : B) : A := f ⟨b⟩
/-- the slices -/
theorem g_sl {r : V → Option Int → Option Int → Hp → VK → Prop} {tl th : TO} (h : te σ H fun x H1 => tl σ H1 fun l H2 => th σ H2 fun u H3 => r x l u H3 Q) : tSl r te tl th σ H Q := h
theorem g_nopart {Q : Option Int → Hp → Prop} (q : Q none H) : tNoPart σ H Q := q
theorem g_part {Q : Option Int → Hp → Prop} (h : te σ H fun x H1 => ∃ i, x = .int i ∧ Q (some i) H1) : tPart te σ H Q := h
theorem g_ispart {R : Int → Prop} (q : R i) : ∃ i', V.int i = .int i' ∧ R i' := ⟨i, rfl, q⟩
theorem g_slL {lo hi : Option Int} (h : SqL K H p xs) (q : New H (.lst (cutV xs lo hi)) fun l H' => Q (.ref l) H') : rSlG K (.ref p) lo hi H Q := .inl ⟨p, xs, rfl, h, q⟩
theorem g_slT {lo hi : Option Int} (h : SqT K H p xs) (hw : ¬ (HT.sIx xs.length 0 lo = 0 ∧ HT.sIx xs.length xs.length hi = xs.length)) (q : New H (.tup (cutV xs lo hi)) fun l H' => Q (.ref l) H') : rSlG K (.ref p) lo hi H Q :=
  .inr (.inl ⟨p, xs, rfl, h, fun e => absurd e hw, fun _ => q⟩)
theorem g_rev (h : ta σ H fun x H1 => ∃ a xs, x = .ref a ∧ SqL K H1 a xs ∧ New H1 (.lst xs.reverse) fun p H' => Q (.ref p) H') : tRevG K ta σ H Q := h
/-- tests -/
theorem g_T {A B : Prop} {b : Bool} (hb : b = true) (h : A) : if b = true then A else B := by rw [if_pos hb]; exact h
theorem g_F {A B : Prop} {b : Bool} (hb : b = false) (h : B) : if b = true then A else B := by rw [if_neg (by rw [hb]; decide)]; exact h
theorem g_ite {A B : Prop} {b : Bool} (h1 : b = true → A) (h2 : b = false → B) : if b = true then A else B := by
  cases b
  · exact h2 rfl
  · exact h1 rfl
end

section
variable {K : PySem.W.Frag} {w : World} {H : Hp} {v : V} {i j : Int} {p a b : Addr} {xs ys : List V} {Q : VK}
theorem Chg.refl : Chg p H H := fun _ _ _ e => e
theorem Chg.trans {H1 H2 : Hp} (h : Chg p H H1) (h' : Chg p H1 H2) : Chg p H H2 := fun b o n e => h' b o n (h b o n e)
theorem Chg.same {H1 : Hp} (h : Same H H1) : Chg p H H1 := fun b o _ e => h b o e
/-- changes at a new object are none of the old ones -/
theorem Same.chg {H1 H2 : Hp} (h : Same H H1) (hp : H p = none) (c : Chg p H1 H2) : Same H H2 := fun b o e => c b o (ne_of_none e hp) (h b o e)
theorem atI_of {α : Type} {xs : List α} {i : Int} {v : α} (h0 : 0 ≤ i) (h : xs[i.toNat]? = some v) : atI xs i = some v := by
  have := atI_nat h
  rwa [Int.toNat_of_nonneg h0] at this
theorem atI_in {α : Type} {xs : List α} {i : Int} (h0 : 0 ≤ i) (h1 : i < xs.length) : ∃ v, atI xs i = some v ∧ v ∈ xs ∧ xs[i.toNat]? = some v := by
  have h2 : i.toNat < xs.length := by omega
  exact ⟨xs[i.toNat], atI_of h0 (List.getElem?_eq_getElem h2), List.getElem_mem h2, List.getElem?_eq_getElem h2⟩
end
/-! ### loops and comprehensions, by what holds at their turns -/
section
variable {K : PySem.W.Frag} {w : World} {H : Hp} {Q : VK} {p : Addr} {ss : List Str} {k : Str}
theorem inV_str : ∀ ss : List Str, inV (.str k) (ss.map V.str) = decide (k ∈ ss)
  | [] => by simp [inV]
  | s :: ss => by
    have ih := inV_str ss
    unfold inV at ih ⊢
    rw [List.map_cons, List.any_cons, ih]
    show (s == k || decide (k ∈ ss)) = _
    by_cases e : s = k
    · subst e; simp
    · have e' : ¬ k = s := fun z => e z.symm
      rw [show (s == k) = false from by simp [e]]
      simp [e']
theorem flat_strs : ∀ ss : List Str, (ss.map V.str).all flatV = true
  | [] => rfl
  | s :: ss => by rw [List.map_cons, List.all_cons, flat_strs ss]; rfl
theorem g_inT (h : SqT K H p (ss.map V.str)) (q : Q (.bl (decide (k ∈ ss))) H) : rInG K w false (.str k) (.ref p) H Q :=
  .inl ⟨p, ss.map V.str, rfl, .inr h, rfl, flat_strs ss, by rw [inV_str]; exact q⟩
theorem dp_ints : ∀ ns : List Int, DpAll K H (ns.map V.int) (ns.map PyData.int)
  | [] => .nil
  | n :: ns => .cons (.int n) (dp_ints ns)
theorem shaped_ints (ns : List Int) : SeqAt.shaped (.list (ns.map PyData.int)) = true := by
  have h1 : ∀ ns : List Int, PyData.canLayAll0 (ns.map PyData.int) = true := by
    intro ns
    induction ns with
    | nil => rfl
    | cons n ns ih => simp [PyData.canLayAll0, PyData.canLay0, ih]
  have h2 : ∀ ns : List Int, PyData.depthAll (ns.map PyData.int) ≤ 1 := by
    intro ns
    induction ns with
    | nil => simp [PyData.depthAll]
    | cons n ns ih => simp [PyData.depthAll, PyData.depth] at ih ⊢; omega
  have h3 := h2 ns
  unfold SeqAt.shaped
  rw [show PyData.canLay0 (.list (ns.map PyData.int)) = true from by rw [PyData.canLay0]; exact h1 ns, Bool.true_and]
  rw [decide_eq_true_eq, PyData.depth]
  omega
theorem g_isi {x : V} {a b : String} {r : Bool} (ty : TyOf K H x (.type a)) (h : kitB a b = some r) (q : Q (.bl r) H) : rIsiG K [x, .ty b] H Q := ⟨x, .ty b, .type a, .type b, r, rfl, .ty b, .base ty, kit_ty h, q⟩
end
/-! what is walked -/
section
variable {K : PySem.W.Frag} {te : TE} {ta : TA} {σ : L2.St} {H : Hp} {R : It → Hp → Prop} {n : Int} {p : Addr} {xs : List V} {x : Str}
theorem g_rng1 (h : ta σ H fun vs H1 => ∃ j : Int, vs = [.int j] ∧ -(2 ^ 62) ≤ j ∧ j < 2 ^ 62 ∧ R (Itr 0 j.toNat) H1) : iRng1 ta σ H R := h
theorem g_isrng {R : Int → Prop} (h1 : -(2 ^ 62) ≤ n) (h2 : n < 2 ^ 62) (q : R n) : ∃ j : Int, [V.int n] = [.int j] ∧ -(2 ^ 62) ≤ j ∧ j < 2 ^ 62 ∧ R j := ⟨n, rfl, h1, h2, q⟩
theorem g_seqL (h : te σ H fun x H1 => ∃ a, x = .ref a ∧ (∃ xs, SqL K H1 a xs) ∧ R (Itl K a) H1) : iSeq K te σ H R := .inl h
theorem g_seqT (h : te σ H fun x H1 => ∃ a, x = .ref a ∧ (∃ xs, SqT K H1 a xs) ∧ R (Itt K a) H1) : iSeq K te σ H R := .inr (.inl h)
theorem g_isL {R : Addr → Prop} (h : SqL K H p xs) (q : R p) : ∃ a, V.ref p = .ref a ∧ (∃ xs, SqL K H a xs) ∧ R a := ⟨p, rfl, ⟨xs, h⟩, q⟩
theorem g_isT {R : Addr → Prop} (h : SqT K H p xs) (q : R p) : ∃ a, V.ref p = .ref a ∧ (∃ xs, SqT K H a xs) ∧ R a := ⟨p, rfl, ⟨xs, h⟩, q⟩
theorem g_isS {R : Str → Prop} (q : R x) : ∃ y, V.str x = .str y ∧ R y := ⟨x, rfl, q⟩
def LcW (J : It) (g : TG) (tt : TT) (te : TE) (vs : List Nat) (σ : L2.St) (H1 : Hp) (D : Addr) (Qd : Hp → Prop) : Prop := ∃ W : Nat → Nat → Hp → Prop, (∃ m, W 0 m (upd H1 D (.lst []))) ∧ ∀ i m H, W i m H →
  (J.stop i H ∧ Qd H) ∨ (J.go i H ∧ ∃ Nx : Hp → Prop, (∀ H', Nx H' → ∃ m', m' < m ∧ W (i + 1) m' H') ∧ ∀ x H', J.yld i H x H' → g x (wipe σ vs) H' fun σ2 H2 => wipe σ2 vs = wipe σ vs ∧ tt σ2 H2 fun b H3 =>
    if b = true then te σ2 H3 fun y H4 => ∃ acc, H4 D = some (.lst acc) ∧ acc.length < sizeLine ∧ Nx (upd H4 D (.lst (acc ++ [y]))) else Nx H3)
def LcR (J : It) (g : TG) (tt : TT) (te : TE) (vs : List Nat) (σ : L2.St) (H1 : Hp) (R : Addr → Hp → Prop) : Prop := ∀ D, H1 D = none → LcW J g tt te vs σ H1 D (R D)
def ForW (J : It) (g : TG) (tb : TS) (D : Ends) (σ : L2.St) (H1 : Hp) : Prop := ∃ W : Nat → Nat → L2.St → Hp → Prop, (∃ m, W 0 m σ H1) ∧ ∀ i m σ H, W i m σ H →
  (J.stop i H ∧ D.nx σ H) ∨ (J.go i H ∧ ∃ N : L2.St → Hp → Prop, (∀ σ' H', N σ' H' → ∃ m', m' < m ∧ W (i + 1) m' σ' H') ∧ ∀ x H', J.yld i H x H' → g x σ H' fun σ2 H2 => tb { D with nx := N, ct := N, bk := D.nx } σ2 H2)
theorem g_lc {g : TG} {tt : TT} {vs : List Nat} {wi : TI} {Q : VK} (h : wi σ H fun J H1 => LcR J g tt te vs σ H1 fun D H => Q (.ref D) H) : tLc wi g tt te vs σ H Q := h
theorem g_for {g : TG} {wi : TI} {tb : TS} {D : Ends} (h : wi σ H fun J H1 => ForW J g tb D σ H1) : tFor wi g tb D σ H := h
theorem g_yes {Q : Bool → Hp → Prop} (q : Q true H) : tYes σ H Q := q
end
section
variable {J : It} {g : TG} {tb : TS} {D : Ends} {σ : L2.St} {H H1 : Hp} {tt : TT} {te : TE} {vs : List Nat} {d : Addr} {Qd : Hp → Prop}
theorem for_any (n : Nat) (Pv : Nat → L2.St → Hp → Prop) (h0 : Pv 0 σ H) (hgo : ∀ i σ H, i < n → Pv i σ H → J.go i H) (hstop : ∀ σ H, Pv n σ H → J.stop n H)
    (hs : ∀ i x σ H H', i < n → Pv i σ H → J.yld i H x H' → g x σ H' fun σ2 H2 => tb { D with nx := Pv (i + 1), ct := Pv (i + 1), bk := D.nx } σ2 H2) (hd : ∀ σ H, Pv n σ H → D.nx σ H) :
    ForW J g tb D σ H := by
  refine ⟨fun i m σ H => Pv i σ H ∧ i ≤ n ∧ m = n - i, ⟨n, h0, Nat.zero_le _, rfl⟩, fun i m σ H ⟨hp, hi, hm⟩ => ?_⟩
  by_cases hin : i = n
  · subst hin
    exact .inl ⟨hstop _ _ hp, hd _ _ hp⟩
  · have hlt : i < n := by omega
    exact .inr ⟨hgo _ _ _ hlt hp, Pv (i + 1), fun σ' H' h' => ⟨n - (i + 1), by omega, h', hlt, rfl⟩, fun x H' hy => hs i x σ H H' hlt hp hy⟩
/-- the list at d behind the i-th turn -/
def NxR (R : Nat → List V → Hp → Prop) (d : Addr) (i : Nat) (H : Hp) : Prop := ∃ acc, H d = some (.lst acc) ∧ acc.length ≤ i ∧ R i acc H
theorem lc_step {R : Nat → List V → Hp → Prop} {i : Nat} {acc : List V} {y : V} (h : H d = some (.lst acc)) (hl : acc.length ≤ i) (hi : i < sizeLine) (q : Put H d (.lst (acc ++ [y])) fun H5 => R (i + 1) (acc ++ [y]) H5) :
    ∃ acc, H d = some (.lst acc) ∧ acc.length < sizeLine ∧ NxR R d (i + 1) (upd H d (.lst (acc ++ [y]))) :=
  ⟨acc, h, Nat.lt_of_le_of_lt hl hi, acc ++ [y], upd_same, by rw [List.length_append, List.length_singleton]; omega, q.at⟩
theorem lc_any (n : Nat) (R : Nat → List V → Hp → Prop) (hD : H1 d = none) (h0 : ∀ H', H' d = some (.lst []) → Same H1 H' → R 0 [] H') (hgo : ∀ i acc H, i < n → R i acc H → J.go i H) (hstop : ∀ acc H, R n acc H → J.stop n H)
    (hs : ∀ i x acc H H', i < n → acc.length ≤ i → R i acc H → H d = some (.lst acc) → J.yld i H x H' → g x (wipe σ vs) H' fun σ2 H2 => wipe σ2 vs = wipe σ vs ∧ tt σ2 H2 fun b H3 =>
      if b = true then te σ2 H3 fun y H4 => ∃ acc, H4 d = some (.lst acc) ∧ acc.length < sizeLine ∧ NxR R d (i + 1) (upd H4 d (.lst (acc ++ [y]))) else NxR R d (i + 1) H3)
    (hd : ∀ acc H, H d = some (.lst acc) → R n acc H → Qd H) :
    LcW J g tt te vs σ H1 d Qd := by
  refine ⟨fun i m H => NxR R d i H ∧ i ≤ n ∧ m = n - i, ⟨n, ⟨[], upd_same, Nat.le_refl _, h0 _ upd_same (same_upd hD)⟩, Nat.zero_le _, rfl⟩, fun i m H ⟨⟨acc, ha, hl, hr⟩, hi, hm⟩ => ?_⟩
  by_cases hin : i = n
  · subst hin
    exact .inl ⟨hstop _ _ hr, hd _ _ ha hr⟩
  · have hlt : i < n := by omega
    exact .inr ⟨hgo _ _ _ hlt hr, NxR R d (i + 1), fun H' h' => ⟨n - (i + 1), by omega, h', hlt, rfl⟩, fun x H' hy => hs i x acc H H' hlt hl hr ha hy⟩
end

/-! ### data of tuples alone -/
mutual
inductive Tp (H : Hp) : V → PyData → Prop
  | non : Tp H .non .none
  | bl (b : Bool) : Tp H (.bl b) (.bool b)
  | int (i : Int) : Tp H (.int i) (.int i)
  | str (x : Str) : Tp H (.str x) (.str x)
  | tup {a : Addr} {xs : List V} {ds : List PyData} : H a = some (.tup xs) → Tps H xs ds → Tp H (.ref a) (.tuple ds)
inductive Tps (H : Hp) : List V → List PyData → Prop
  | nil : Tps H [] []
  | cons {v : V} {vs : List V} {d : PyData} {ds : List PyData} : Tp H v d → Tps H vs ds → Tps H (v :: vs) (d :: ds)
end
/-- the tuples stay -/
def Tk (H H' : Hp) : Prop := ∀ b xs, H b = some (.tup xs) → H' b = some (.tup xs)
theorem Tk.refl (H : Hp) : Tk H H := fun _ _ e => e
theorem Tk.trans {H H1 H2 : Hp} (a : Tk H H1) (b : Tk H1 H2) : Tk H H2 := fun c xs e => b c xs (a c xs e)
theorem Same.tk {H H' : Hp} (s : Same H H') : Tk H H' := fun b xs e => s b _ e
theorem Chg.tk {H H' : Hp} {a : Addr} (c : Chg a H H') (h : ∀ xs, H a ≠ some (.tup xs)) : Tk H H' := fun b xs e => c b _ (fun z => h xs (z ▸ e)) e
theorem Chg.tkl {H H' : Hp} {a : Addr} {ys : List V} (c : Chg a H H') (h : H a = some (.lst ys)) : Tk H H' := c.tk fun xs e => by rw [h] at e; cases e
mutual
theorem Tp.mono {H H' : Hp} (k : Tk H H') : ∀ {d : PyData} {v : V}, Tp H v d → Tp H' v d
  | .none, _, h => by cases h; exact .non
  | .bool b, _, h => by cases h; exact .bl b
  | .int i, _, h => by cases h; exact .int i
  | .str x, _, h => by cases h; exact .str x
  | .tuple ds, _, h => by
    cases h with
    | tup e r => exact .tup (k _ _ e) (Tps.mono k r)
  | .list ds, _, h => by cases h
  | .dict ds, _, h => by cases h
theorem Tps.mono {H H' : Hp} (k : Tk H H') : ∀ {ds : List PyData} {vs : List V}, Tps H vs ds → Tps H' vs ds
  | [], _, h => by cases h; exact .nil
  | d :: ds, _, h => by
    cases h with
    | cons a b => exact .cons (Tp.mono k a) (Tps.mono k b)
end
mutual
theorem Tp.dp {K : PySem.W.Frag} {H : Hp} : ∀ {d : PyData} {v : V}, Tp H v d → Dp K H v d
  | .none, _, h => by cases h; exact .non
  | .bool b, _, h => by cases h; exact .bl b
  | .int i, _, h => by cases h; exact .int i
  | .str x, _, h => by cases h; exact .str x
  | .tuple ds, _, h => by
    cases h with
    | tup e r => exact .tup (.of e) (Tps.dp r)
  | .list ds, _, h => by cases h
  | .dict ds, _, h => by cases h
theorem Tps.dp {K : PySem.W.Frag} {H : Hp} : ∀ {ds : List PyData} {vs : List V}, Tps H vs ds → DpAll K H vs ds
  | [], _, h => by cases h; exact .nil
  | d :: ds, _, h => by
    cases h with
    | cons a b => exact .cons (Tp.dp a) (Tps.dp b)
end
section
variable {H : Hp} {xs ys : List V} {ds es : List PyData} {v : V} {d : PyData}
theorem Tps.length : ∀ {xs : List V} {ds : List PyData}, Tps H xs ds → xs.length = ds.length
  | [], _, h => by cases h; rfl
  | x :: xs, _, h => by
    cases h with
    | cons a b => rw [List.length_cons, List.length_cons, Tps.length b]
theorem Tps.append : ∀ {xs : List V} {ds : List PyData}, Tps H xs ds → Tps H ys es → Tps H (xs ++ ys) (ds ++ es)
  | [], _, h, h2 => by cases h; exact h2
  | x :: xs, _, h, h2 => by
    cases h with
    | cons a b => exact .cons a (Tps.append b h2)
theorem Tps.one (h : Tp H v d) : Tps H [v] [d] := .cons h .nil
theorem Tps.get : ∀ {xs : List V} {ds : List PyData} {i : Nat} {v : V}, Tps H xs ds → xs[i]? = some v → ∃ d, ds[i]? = some d ∧ Tp H v d
  | [], _, i, v, _, e => by simp at e
  | x :: xs, _, 0, v, h, e => by
    cases h with
    | cons a b =>
      simp only [List.getElem?_cons_zero, Option.some.injEq] at e
      subst e
      exact ⟨_, rfl, a⟩
  | x :: xs, _, i + 1, v, h, e => by
    cases h with
    | cons a b =>
      rw [List.getElem?_cons_succ] at e
      obtain ⟨d, h1, h2⟩ := Tps.get b e
      exact ⟨d, by rw [List.getElem?_cons_succ]; exact h1, h2⟩
theorem Tps.at : ∀ {xs : List V} {ds : List PyData} {i : Nat} {d : PyData}, Tps H xs ds → ds[i]? = some d → ∃ v, xs[i]? = some v ∧ Tp H v d
  | xs, [], i, d, _, e => by simp at e
  | _, d0 :: ds, 0, d, h, e => by
    cases h with
    | cons a b =>
      simp only [List.getElem?_cons_zero, Option.some.injEq] at e
      subst e
      exact ⟨_, rfl, a⟩
  | _, d0 :: ds, i + 1, d, h, e => by
    cases h with
    | cons a b =>
      rw [List.getElem?_cons_succ] at e
      obtain ⟨v, h1, h2⟩ := Tps.at b e
      exact ⟨v, by rw [List.getElem?_cons_succ]; exact h1, h2⟩
theorem Tps.take : ∀ {xs : List V} {ds : List PyData} (n : Nat), Tps H xs ds → Tps H (xs.take n) (ds.take n)
  | _, _, 0, _ => .nil
  | [], _, n + 1, h => by cases h; exact .nil
  | x :: xs, _, n + 1, h => by
    cases h with
    | cons a b => exact .cons a (Tps.take n b)
theorem Tps.drop : ∀ {xs : List V} {ds : List PyData} (n : Nat), Tps H xs ds → Tps H (xs.drop n) (ds.drop n)
  | _, _, 0, h => h
  | [], _, n + 1, h => by cases h; exact .nil
  | x :: xs, _, n + 1, h => by
    cases h with
    | cons a b => exact Tps.drop n b
theorem Tps.reverse : ∀ {xs : List V} {ds : List PyData}, Tps H xs ds → Tps H xs.reverse ds.reverse
  | [], _, h => by cases h; exact .nil
  | x :: xs, _, h => by
    cases h with
    | cons a b =>
      rw [List.reverse_cons, List.reverse_cons]
      exact Tps.append (Tps.reverse b) (.one a)
theorem Tps.ints : ∀ ss : List Int, Tps H (ss.map V.int) (ss.map PyData.int)
  | [] => .nil
  | s :: ss => .cons (.int s) (Tps.ints ss)
end
def isName (s : Str) : Prop := 1 ≤ s.length ∧ s.length ≤ 8 ∧ ∀ c ∈ s.cps.toList, 97 ≤ c ∧ c < 123
/-! ### parts -/
inductive K1 | left | right
  deriving DecidableEq
def K1.word : K1 → Str
  | .left => "left"
  | .right => "right"
inductive K2 | give | plus | less | times | below | pair
  deriving DecidableEq
def K2.word : K2 → Str
  | .give => "give"
  | .plus => "plus"
  | .less => "less"
  | .times => "times"
  | .below => "below"
  | .pair => "pair"
mutual
inductive Part
  | num (n : Int) | name (x : Str) | fn (f : Str) | one (k : K1) (a : Part) | two (k : K2) (a b : Part) | whn (a b c : Part) | letp (r : Rows) (a : Part) | shut (a : Part)
inductive Rows
  | nil | cons (x : Str) (a : Part) (r : Rows)
end
mutual
def Part.data : Part → PyData
  | .num n => .tuple [.str "number", .int n]
  | .name x => .tuple [.str "name", .str x]
  | .fn f => .tuple [.str "fun", .str f]
  | .one k a => .tuple [.str k.word, a.data]
  | .two k a b => .tuple [.str k.word, a.data, b.data]
  | .whn a b c => .tuple [.str "when", a.data, b.data, c.data]
  | .letp r a => .tuple [.str "let", .tuple r.datas, a.data]
  | .shut a => .tuple [.str "shut", a.data]
def Rows.datas : Rows → List PyData
  | .nil => []
  | .cons x a r => .tuple [.str x, a.data] :: r.datas
end
mutual
/-- how many parts -/
def Part.size : Part → Nat
  | .num _ => 1
  | .name _ => 1
  | .fn _ => 1
  | .one _ a => 1 + a.size
  | .two _ a b => 1 + (a.size + b.size)
  | .whn a b c => 1 + (a.size + (b.size + c.size))
  | .letp r a => 1 + (r.size + a.size)
  | .shut _ => 1
def Rows.size : Rows → Nat
  | .nil => 0
  | .cons _ a r => a.size + r.size
end
mutual
def Part.deep : Part → Nat
  | .num _ => 1
  | .name _ => 1
  | .fn _ => 1
  | .one _ a => 1 + a.deep
  | .two _ a b => 1 + max a.deep b.deep
  | .whn a b c => 1 + max a.deep (max b.deep c.deep)
  | .letp r a => 1 + max r.deep a.deep
  | .shut _ => 1
def Rows.deep : Rows → Nat
  | .nil => 0
  | .cons _ a r => max a.deep r.deep
end
def Rows.names : Rows → List Str
  | .nil => []
  | .cons x _ r => x :: r.names
def Rows.parts : Rows → List Part
  | .nil => []
  | .cons _ a r => a :: r.parts
def Rows.app : Rows → Rows → Rows
  | .nil, s => s
  | .cons x a r, s => .cons x a (r.app s)
def Part.kids : Part → List Part
  | .num _ => []
  | .name _ => []
  | .fn _ => []
  | .one _ a => [a]
  | .two _ a b => [a, b]
  | .whn a b c => [a, b, c]
  | .letp r a => r.parts ++ [a]
  | .shut _ => []
mutual
/-- the names of the rows of all lets, in the order of places -/
def Part.rowNames : Part → List Str
  | .num _ => []
  | .name _ => []
  | .fn _ => []
  | .one _ a => a.rowNames
  | .two _ a b => a.rowNames ++ b.rowNames
  | .whn a b c => a.rowNames ++ (b.rowNames ++ c.rowNames)
  | .letp r a => r.names ++ (r.rowNames ++ a.rowNames)
  | .shut _ => []
def Rows.rowNames : Rows → List Str
  | .nil => []
  | .cons _ a r => a.rowNames ++ r.rowNames
end
mutual
/-- a part of a program: names in scope, funs there, small numbers, one to four rows -/
def Part.ok (fs : List Str) : List Str → Part → Prop
  | sc, .num n => n.natAbs < 10 ^ 60
  | sc, .name x => x ∈ sc ∧ isName x
  | sc, .fn f => f ∈ fs ∧ isName f
  | sc, .one _ a => a.ok fs sc
  | sc, .two _ a b => a.ok fs sc ∧ b.ok fs sc
  | sc, .whn a b c => a.ok fs sc ∧ b.ok fs sc ∧ c.ok fs sc
  | sc, .letp r a => r.names.length ≤ 4 ∧ r.names ≠ [] ∧ (∀ x ∈ r.names, isName x) ∧ r.ok fs (sc ++ r.names) ∧ a.ok fs (sc ++ r.names)
  | _, .shut _ => False
def Rows.ok (fs : List Str) : List Str → Rows → Prop
  | _, .nil => True
  | sc, .cons _ a r => a.ok fs sc ∧ r.ok fs sc
end
/-! ### written tables, from what the top has left -/
/-! ### more methods of lists -/
section
variable {X : Cx}
def rClearG : V → List V → Hp → VK → Prop := fun x vs H Q => ∃ l xs, x = .ref l ∧ vs = [] ∧ H l = some (.lst xs) ∧ Put H l (.lst []) fun H' => Q .non H'
/-! dicts: a copy, a clearing -/
def rDClearG : V → List V → Hp → VK → Prop := fun x vs H Q => ∃ (a : Addr) (kvs : List (Key × V)), x = .ref a ∧ vs = [] ∧ H a = some (.dK kvs) ∧ Put H a (.dK []) fun H' => Q .non H'
def rDictG : List V → Hp → VK → Prop := fun xs H Q => ∃ (a : Addr) (kvs : List (Key × V)), xs = [.ref a] ∧ H a = some (.dK kvs) ∧ New H (.dK kvs) fun p H' => Q (.ref p) H'
/-- a list so many times -/
def rRepG : R2 := fun x y H Q => ∃ l k xs, x = .ref l ∧ y = .int k ∧ H l = some (.lst xs) ∧ -(2 ^ 63) ≤ k ∧ k < 2 ^ 63 ∧ xs.length * k.toNat ≤ sizeLine ∧ New H (.lst (List.replicate k.toNat xs).flatten) fun p H' => Q (.ref p) H'
/-- a statement that is never come to -/
def tNever : TS := fun _ _ _ => False
/-- dict(l) of a list of pairs -/
def rDictP (K : PySem.W.Frag) : List V → Hp → VK → Prop := fun xs H Q => ∃ (a : Addr) (ps : List Addr) (kvs : List (Key × V)), xs = [.ref a] ∧ SqL K H a (ps.map V.ref) ∧ Paired (fun p kv => SqT K H p [kV kv.1, kv.2]) ps kvs ∧ New H (.dK (mergeK [] kvs)) fun p H' => Q (.ref p) H'
theorem call_dictPG (hc : X.calm = true) : CallR X (.type "dict") (rDictP X.K) := callr_imp (call_dictP hc) fun xs H Q ⟨a, ps, kvs, e, h, hp, n⟩ => ⟨a, ps, kvs, e, h, hp, n.at⟩
theorem call_dictG : CallR X (.type "dict") rDictG := callr_imp call_dictD fun xs H Q ⟨a, kvs, e, h, n⟩ => ⟨a, kvs, e, .of h, n.at⟩
end
section
variable {K : PySem.W.Frag} {w : World} {H : Hp} {Q : VK} {a : Addr} {xs : List V} {ss : List Str} {k : Str} {j : Nat} {R : It → Hp → Prop} {σ : L2.St} {ta : TA}
end

/-! ### what is known of a heap, from the heaps ahead -/
section
variable {H H1 H' : Hp} {a b d p : Addr} {o : HO} {xs ys : List V}
theorem Same.to (s : Same H H') (h : H b = some o) : H' b = some o := s b o h
theorem Chg.to (c : Chg a H H') (h : H b = some o) (n : b ≠ a) : H' b = some o := c b o n h
theorem Tk.to (k : Tk H H') (h : H b = some (.tup xs)) : H' b = some (.tup xs) := k b xs h
/-- nothing is at p (a word of its own, so that it is found by its heap) -/
def Fr (H : Hp) (p : Addr) : Prop := H p = none
theorem ne_fr (h : H b = some o) (h' : Fr H a) : b ≠ a := ne_of_none h h'
theorem New.mk {R : Addr → Hp → Prop} (h : ∀ p H', Fr H p → H' p = some o → Same H H' → R p H') : New H o R := h
theorem Put.mk {R : Hp → Prop} (h : ∀ H', H' a = some o → Chg a H H' → R H') : Put H a o R := h
theorem Chg.free (c : Chg a H H') (n : b ≠ a) (h : H' b = none) : H b = none := by
  cases e : H b with
  | none => rfl
  | some o => rw [c b o n e] at h; cases h
theorem Chg.fresh (i : Chg p H H1) (hd : H d = none) (c : Chg d H1 H') : Chg p H H' := fun b o hb e => c b o (ne_of_none e hd) (i b o hb e)
theorem Tk.same (i : Tk H H1) (s : Same H1 H') : Tk H H' := i.trans (Same.tk s)
theorem Tk.lst (i : Tk H H1) (c : Chg a H1 H') (h : H1 a = some (.lst ys)) : Tk H H' := i.trans (c.tkl h)
theorem Tk.dct {kvs : List (Key × V)} (i : Tk H H1) (c : Chg a H1 H') (h : H1 a = some (.dK kvs)) : Tk H H' := i.trans (c.tk fun xs e => by rw [h] at e; cases e)
theorem Same.more (i : Same H H1) (s : Same H1 H') : Same H H' := i.trans s
theorem Same.more2 (i : Same H H1) (c : Chg d H1 H') (h : H d = none) : Same H H' := Same.chg i h c
theorem Tp.to {v : V} {e : PyData} (h : Tp H v e) (k : Tk H H') : Tp H' v e := h.mono k
theorem Tps.to {vs : List V} {es : List PyData} (h : Tps H vs es) (k : Tk H H') : Tps H' vs es := h.mono k
end
section
variable {K : PySem.W.Frag} {w : World} {H : Hp} {v x y z : V} {i j k : Nat} {p a b : Addr} {xs ys : List V} {Q : VK} {σ : L2.St}
theorem g_ixTa {i : Int} (h : H p = some (.tup xs)) (e : xs[i.toNat]? = some v) (h0 : 0 ≤ i) (q : Q v H) : rIxG K w (.ref p) (.int i) H Q := g_ixT (.of h) (atI_of h0 e) q
theorem g_ixLa {i : Int} (h : H p = some (.lst xs)) (e : xs[i.toNat]? = some v) (h0 : 0 ≤ i) (q : Q v H) : rIxG K w (.ref p) (.int i) H Q := g_ixL (.of h) (atI_of h0 e) q
theorem g_isLa {R : Addr → Prop} (h : H p = some (.lst xs)) (q : R p) : ∃ a, V.ref p = .ref a ∧ (∃ xs, SqL K H a xs) ∧ R a := g_isL (.of h) q
theorem g_isTa {R : Addr → Prop} (h : H p = some (.tup xs)) (q : R p) : ∃ a, V.ref p = .ref a ∧ (∃ xs, SqT K H a xs) ∧ R a := g_isT (.of h) q
theorem g_inX {k : Str} {r : Bool} (h : H p = some (.tup xs)) (f : xs.all flatV = true) (e : inV (.str k) xs = r) (q : Q (.bl r) H) : rInG K w false (.str k) (.ref p) H Q := .inl ⟨p, xs, rfl, .inr (.of h), rfl, f, by rw [e]; exact q⟩
theorem g_notInX {k : Str} {r : Bool} (h : H p = some (.tup xs)) (f : xs.all flatV = true) (e : inV (.str k) xs = r) (q : Q (.bl (!r)) H) : rInG K w true (.str k) (.ref p) H Q := .inl ⟨p, xs, rfl, .inr (.of h), rfl, f, by rw [e]; exact q⟩
end
/-! comprehensions that make of each item one thing, where no old object changes -/
section
variable {K : PySem.W.Frag} {H1 : Hp} {g : TG} {te : TE} {vs : List Nat} {σ : L2.St} {a : Addr} {xs : List V} {Qd : Addr → Hp → Prop} {F : Nat → V → Hp → Prop}
theorem lc_map_any {J : It} (hJ1 : ∀ i H', i < xs.length → Same H1 H' → J.go i H') (hJ2 : ∀ H', Same H1 H' → J.stop xs.length H') (hJ3 : ∀ i H' x H2, Same H1 H' → J.yld i H' x H2 → H2 = H' ∧ xs[i]? = some x)
    (hl : xs.length ≤ 100000) (F : Nat → V → Hp → Prop) (hF : ∀ i y H H', Tk H H' → F i y H → F i y H')
    (hs : ∀ (i : Nat) x H' (Nx : V → Hp → Prop), xs[i]? = some x → Same H1 H' → (∀ y H4, Same H' H4 → F i y H4 → Nx y H4) → g x (wipe σ vs) H' fun σ2 H2 => wipe σ2 vs = wipe σ vs ∧ te σ2 H2 Nx)
    (hd : ∀ D (ys : List V) H', Fr H1 D → H' D = some (.lst ys) → ys.length = xs.length → (∀ (i : Nat) y, ys[i]? = some y → F i y H') → Same H1 H' → Qd D H') : LcR J g tYes te vs σ H1 Qd := by
  intro D hD
  refine lc_any xs.length (fun i acc H' => acc.length = i ∧ (∀ (j : Nat) y, acc[j]? = some y → F j y H') ∧ Same H1 H') hD (fun H' _ s => ⟨rfl, by simp, s⟩) (fun i acc H' hi ⟨_, _, s⟩ => hJ1 i H' hi s) (fun acc H' ⟨_, _, s⟩ => hJ2 H' s) ?_ ?_
  · rintro i x acc H2 H' hi hla ⟨ha, hf, s2⟩ hd2 hy
    obtain ⟨rfl, hx⟩ := hJ3 i _ _ _ s2 hy
    refine hs i x _ _ hx s2 fun y H4 s4 f4 => ?_
    refine lc_step (s4 _ _ hd2) hla (by show _ < 16777216; omega) fun H5 e5 c5 => ?_
    have k5 : Tk H4 H5 := c5.tkl (s4 _ _ hd2)
    refine ⟨by rw [List.length_append, ha]; rfl, fun j z hz => ?_, Same.chg (s2.trans s4) hD c5⟩
    by_cases hj : j < acc.length
    · rw [List.getElem?_append_left hj] at hz
      exact hF _ _ _ _ ((Same.tk s4).trans k5) (hf j z hz)
    · have hj2 : j < (acc ++ [y]).length := (List.getElem?_eq_some_iff.mp hz).1
      rw [List.length_append, List.length_singleton] at hj2
      have : j = acc.length := by omega
      subst this
      rw [List.getElem?_append_right (Nat.le_refl _), Nat.sub_self] at hz
      cases hz
      rw [ha]
      exact hF _ _ _ _ k5 f4
  · rintro acc H' hd2 ⟨ha, hf, s⟩
    exact hd D acc H' hD hd2 ha hf s
theorem lc_mapT (ea : H1 a = some (.tup xs)) (hl : xs.length ≤ 100000) (F : Nat → V → Hp → Prop) (hF : ∀ i y H H', Tk H H' → F i y H → F i y H')
    (hs : ∀ (i : Nat) x H' (Nx : V → Hp → Prop), xs[i]? = some x → Same H1 H' → (∀ y H4, Same H' H4 → F i y H4 → Nx y H4) → g x (wipe σ vs) H' fun σ2 H2 => wipe σ2 vs = wipe σ vs ∧ te σ2 H2 Nx)
    (hd : ∀ D (ys : List V) H', Fr H1 D → H' D = some (.lst ys) → ys.length = xs.length → (∀ (i : Nat) y, ys[i]? = some y → F i y H') → Same H1 H' → Qd D H') : LcR (Itt K a) g tYes te vs σ H1 Qd :=
  lc_map_any (xs := xs) (fun i H' hi s => ⟨_, _, .of (s _ _ ea), List.getElem?_eq_getElem hi⟩) (fun H' s => ⟨_, .of (s _ _ ea), Nat.le_refl _⟩) (fun i H' x H2 s ⟨e, hx⟩ => ⟨e, hx _ (.of (s _ _ ea))⟩) hl F hF hs hd
theorem lc_mapL (ea : H1 a = some (.lst xs)) (hl : xs.length ≤ 100000) (F : Nat → V → Hp → Prop) (hF : ∀ i y H H', Tk H H' → F i y H → F i y H')
    (hs : ∀ (i : Nat) x H' (Nx : V → Hp → Prop), xs[i]? = some x → Same H1 H' → (∀ y H4, Same H' H4 → F i y H4 → Nx y H4) → g x (wipe σ vs) H' fun σ2 H2 => wipe σ2 vs = wipe σ vs ∧ te σ2 H2 Nx)
    (hd : ∀ D (ys : List V) H', Fr H1 D → H' D = some (.lst ys) → ys.length = xs.length → (∀ (i : Nat) y, ys[i]? = some y → F i y H') → Same H1 H' → Qd D H') : LcR (Itl K a) g tYes te vs σ H1 Qd :=
  lc_map_any (xs := xs) (fun i H' hi s => ⟨_, _, .of (s _ _ ea), List.getElem?_eq_getElem hi⟩) (fun H' s => ⟨_, .of (s _ _ ea), Nat.le_refl _⟩) (fun i H' x H2 s ⟨e, hx⟩ => ⟨e, hx _ (.of (s _ _ ea))⟩) hl F hF hs hd
end
/-! for over a tuple, over a list that stays -/
section
variable {K : PySem.W.Frag} {g : TG} {tb : TS} {D : Ends} {σ : L2.St} {H : Hp} {a : Addr} {xs : List V}
theorem for_T (Pv : Nat → L2.St → Hp → Prop) (ha : ∀ i σ H', Pv i σ H' → H' a = some (.tup xs)) (h0 : Pv 0 σ H)
    (hs : ∀ (i : Nat) x σ H', xs[i]? = some x → Pv i σ H' → g x σ H' fun σ2 H2 => tb { D with nx := Pv (i + 1), ct := Pv (i + 1), bk := D.nx } σ2 H2) (hd : ∀ σ H', Pv xs.length σ H' → D.nx σ H') : ForW (Itt K a) g tb D σ H :=
  for_any xs.length Pv h0 (fun i σ H' hi p => ⟨_, _, .of (ha _ _ _ p), List.getElem?_eq_getElem hi⟩) (fun σ H' p => ⟨_, .of (ha _ _ _ p), Nat.le_refl _⟩)
    (fun i x σ H1 H2 hi p ⟨e, hx⟩ => by subst e; exact hs i x σ _ (hx _ (.of (ha _ _ _ p))) p) hd
theorem for_L (Pv : Nat → L2.St → Hp → Prop) (ha : ∀ i σ H', Pv i σ H' → H' a = some (.lst xs)) (h0 : Pv 0 σ H)
    (hs : ∀ (i : Nat) x σ H', xs[i]? = some x → Pv i σ H' → g x σ H' fun σ2 H2 => tb { D with nx := Pv (i + 1), ct := Pv (i + 1), bk := D.nx } σ2 H2) (hd : ∀ σ H', Pv xs.length σ H' → D.nx σ H') : ForW (Itl K a) g tb D σ H :=
  for_any xs.length Pv h0 (fun i σ H' hi p => ⟨_, _, .of (ha _ _ _ p), List.getElem?_eq_getElem hi⟩) (fun σ H' p => ⟨_, .of (ha _ _ _ p), Nat.le_refl _⟩)
    (fun i x σ H1 H2 hi p ⟨e, hx⟩ => by subst e; exact hs i x σ _ (hx _ (.of (ha _ _ _ p))) p) hd
end
section
variable {K : PySem.W.Frag} {w : World} {H H' : Hp} {Q : VK} {a b : Addr} {xs ys : List V} {kvs : List (Key × V)}
theorem g_dict (h : H a = some (.dK kvs)) (q : New H (.dK kvs) fun p H' => Q (.ref p) H') : rDictG [.ref a] H Q := ⟨a, kvs, rfl, h, q⟩
theorem g_addTn (h1 : H a = some (.tup xs)) (h2 : H b = some (.tup ys)) (hl : xs.length + ys.length ≤ sizeLine) (ny : ys ≠ []) (q : ∀ c H', H' c = some (.tup (xs ++ ys)) → Same H H' → Q (.ref c) H') : rAddG K (.ref a) (.ref b) H Q := by
  refine .inr (.inr (.inr ⟨a, b, xs, ys, rfl, rfl, .of h1, .of h2, hl, fun e => ?_, fun _ e => absurd e ny, fun _ _ p H' _ e s => q p H' e s⟩))
  subst e
  exact q b H h2 (.refl _)
/-- a list and an empty one -/
theorem g_neNil (h : H a = some (.lst xs)) (h2 : H b = some (.lst [])) (q : Q (.bl (!xs.isEmpty)) H) : rNeG K (.ref a) (.ref b) H Q := by
  cases xs with
  | nil => exact .inr (.inr (.inr (.inl ⟨1, by decide, .inl ⟨a, b, [], [], rfl, rfl, .of h, .of h2, .nil⟩, q⟩)))
  | cons x xs => exact .inr (.inr (.inr (.inr ⟨a, b, _, _, rfl, rfl, .of h, .of h2, by simp, q⟩)))
theorem g_eqNil (h : H a = some (.lst xs)) (h2 : H b = some (.lst [])) (q : Q (.bl xs.isEmpty) H) : rEqG K (.ref a) (.ref b) H Q := by
  cases xs with
  | nil => exact .inr (.inr (.inr (.inl ⟨1, by decide, .inl ⟨a, b, [], [], rfl, rfl, .of h, .of h2, .nil⟩, q⟩)))
  | cons x xs => exact .inr (.inr (.inr (.inr ⟨a, b, _, _, rfl, rfl, .of h, .of h2, by simp, q⟩)))
def GTup (K : PySem.W.Frag) (a : Addr) (xs : List V) : Prop := ∀ H : Hp, SqT K H a xs
theorem g_inGT {k : Str} {r : Bool} (h : GTup K a xs) (f : xs.all flatV = true) (e : inV (.str k) xs = r) (q : Q (.bl r) H) : rInG K w false (.str k) (.ref a) H Q := .inl ⟨a, xs, rfl, .inr (h H), rfl, f, by rw [e]; exact q⟩
theorem g_neBI {i j : Int} (q : Q (.bl (!decide (i = j))) H) : rNeB K (.int i) (.int j) H Q := .inl (g_neI q)
theorem g_neBS {i j : Str} (q : Q (.bl (!decide (i = j))) H) : rNeB K (.str i) (.str j) H Q := .inl (g_neS q)
theorem g_eqBI {i j : Int} (q : Q (.bl (decide (i = j))) H) : rEqB K (.int i) (.int j) H Q := .inl (g_eqI q)
theorem g_eqBS {i j : Str} (q : Q (.bl (decide (i = j))) H) : rEqB K (.str i) (.str j) H Q := .inl (g_eqS q)
end
theorem valV_mem {kvs : List (Key × V)} : (kvs.map (·.1)).Nodup → ∀ p ∈ kvs, valV kvs p.1 = some p.2 := by
  induction kvs with
  | nil => intro _ p hp; cases hp
  | cons q r ih =>
    intro hn p hp
    rw [List.map_cons, List.nodup_cons] at hn
    rcases List.mem_cons.mp hp with rfl | hp
    · exact valV_pos rfl
    · have hne : ¬ q.1 = p.1 := fun e => hn.1 (by rw [e]; exact List.mem_map_of_mem hp)
      rw [valV_neg hne]
      exact ih hn.2 p hp
/-! ### zip of a list and a tuple, any of both -/
inductive Kd | lst | tup
/-- an iterator at p, at its k-th item of the object at l -/
def Feed (κ : Kd) (h : Heap) (p l : Addr) (k : Nat) (xs : Array Value) : Prop :=
  match κ with
  | .lst => h.IsListIter p l k ∧ h.IsList l xs
  | .tup => h.IsTupleIter p l k ∧ h.IsTuple l xs
theorem Feed.to {κ : Kd} {h h' : Heap} {p l : Addr} {k : Nat} {xs : Array Value} (f : Feed κ h p l k xs) (e1 : ∀ o, h.get? p = some o → h'.get? p = some o) (e2 : ∀ o, h.get? l = some o → h'.get? l = some o) : Feed κ h' p l k xs := by
  cases κ with
  | lst => exact ⟨f.1.at e1, f.2.at e2⟩
  | tup => exact ⟨f.1.at e1, f.2.at e2⟩
theorem Feed.lt {κ : Kd} {h : Heap} {p l : Addr} {k : Nat} {xs : Array Value} (f : Feed κ h p l k xs) : p < h.objs.size ∧ l < h.objs.size := by
  cases κ with
  | lst => obtain ⟨⟨o, e, _⟩, ⟨o2, e2, _⟩⟩ := f; exact ⟨Heap.lt_size e, Heap.lt_size e2⟩
  | tup => obtain ⟨⟨o, e, _⟩, ⟨o2, e2, _⟩⟩ := f; exact ⟨Heap.lt_size e, Heap.lt_size e2⟩
theorem Feed.obj {κ : Kd} {h : Heap} {p l : Addr} {k : Nat} {xs : Array Value} (f : Feed κ h p l k xs) : ∃ o, h.get? p = some o ∧ ∀ v, o.data ≠ .cell v := by
  cases κ with
  | lst => obtain ⟨⟨o, e, _, d⟩, _⟩ := f; exact ⟨o, e, fun v q => by rw [d] at q; cases q⟩
  | tup => obtain ⟨⟨o, e, _, d⟩, _⟩ := f; exact ⟨o, e, fun v q => by rw [d] at q; cases q⟩
section
variable {prog : Program} {w : World} {A : Around} {E : Value → Shared → Prop} {s : Shared}
theorem feed_next {κ : Kd} {p l : Addr} {k : Nat} {xs : Array Value} {x : Value} {Q : Value → Shared → Prop} (f : Feed κ s.heap p l k xs) (n : l ≠ p) (e : xs[k]? = some x)
    (q : ∀ h', Feed κ h' p l (k + 1) xs → Heap.SameBut p s.heap h' → Q x { s with heap := h' }) : wpAny (model prog w) A (Builtin.SmallTypes.nextOf (.ref p)) Q E s := by
  cases κ with
  | lst => exact wpAny_nextOf_list_item f.1 f.2 e fun h' a b => q h' ⟨a, f.2.at fun o z => b.extBut _ _ n z⟩ b
  | tup => exact RZ.nextOf_tuple_item f.1 f.2 e fun h' a b => q h' ⟨a, f.2.at fun o z => b.extBut _ _ n z⟩ b
theorem feed_over {κ : Kd} {p l : Addr} {k : Nat} {xs : Array Value} {Q : Value → Shared → Prop} (calm : A.handled = none) (f : Feed κ s.heap p l k xs) (e : xs[k]? = none)
    (q : ∀ h' x, Heap.ExtBut p s.heap h' → (∃ o, h'.get? x = some o ∧ o.cls = .type "StopIteration") → E (.ref x) { s with heap := h' }) : wpAny (model prog w) A (Builtin.SmallTypes.nextOf (.ref p)) Q E s := by
  cases κ with
  | lst => exact wpAny_nextOf_list_end calm f.1 f.2 e q
  | tup => exact RZ.nextOf_tuple_end calm f.1 f.2 e q
end
/-- all that a zip at z is made of; t, b: what it tells of the pair that it gave out -/
structure Zp (κ κ' : Kd) (z I O p p' l l' : Addr) (xs ys : Array Value) (k k' : Nat) (t : Value) (b : Bool) (h : Heap) : Prop where
  zip : h.get? z = some { cls := .type "zip", dict := none, data := .fields #[t, .bool b, .bool false, .ref I, .ref O], slots := #[] }
  ins : IsPair h I (.ref p) (.ref p')
  out : ∃ x y, IsPair h O x y
  fst : Feed κ h p l k xs
  snd : Feed κ' h p' l' k' ys
section
variable {κ κ' : Kd} {z I O p p' l l' : Addr} {xs ys : Array Value} {k k' : Nat} {t t' : Value} {b b' : Bool} {h h' : Heap}
theorem Zp.setZ (d : ZipApart z I O p p' l l') (m : Zp κ κ' z I O p p' l l' xs ys k k' t b h) (e : h'.get? z = some { cls := .type "zip", dict := none, data := .fields #[t', .bool b', .bool false, .ref I, .ref O], slots := #[] }) (s : Heap.SameBut z h h') :
    Zp κ κ' z I O p p' l l' xs ys k k' t' b' h' :=
  ⟨e, s.extBut _ _ d.TIz m.ins, m.out.imp fun x ⟨y, g⟩ => ⟨y, s.extBut _ _ d.TOz g⟩, m.fst.to (fun o => s.extBut _ o d.i1z) (fun o => s.extBut _ o d.l1z), m.snd.to (fun o => s.extBut _ o d.i2z) (fun o => s.extBut _ o d.l2z)⟩
theorem Zp.setF {j : Nat} (d : ZipApart z I O p p' l l') (m : Zp κ κ' z I O p p' l l' xs ys k k' t b h) (e : Feed κ h' p l j xs) (s : Heap.SameBut p h h') : Zp κ κ' z I O p p' l l' xs ys j k' t b h' :=
  ⟨s.extBut _ _ d.i1z.symm m.zip, s.extBut _ _ d.TIi1 m.ins, m.out.imp fun x ⟨y, g⟩ => ⟨y, s.extBut _ _ d.TOi1 g⟩, e, m.snd.to (fun o => s.extBut _ o d.i12.symm) (fun o => s.extBut _ o d.l2i1)⟩
theorem Zp.setS {j : Nat} (d : ZipApart z I O p p' l l') (m : Zp κ κ' z I O p p' l l' xs ys k k' t b h) (e : Feed κ' h' p' l' j ys) (s : Heap.SameBut p' h h') : Zp κ κ' z I O p p' l l' xs ys k j t b h' :=
  ⟨s.extBut _ _ d.i2z.symm m.zip, s.extBut _ _ d.TIi2 m.ins, m.out.imp fun x ⟨y, g⟩ => ⟨y, s.extBut _ _ d.TOi2 g⟩, m.fst.to (fun o => s.extBut _ o d.i12) (fun o => s.extBut _ o d.l1i2), e⟩
theorem Zp.setO {x y : Value} (d : ZipApart z I O p p' l l') (m : Zp κ κ' z I O p p' l l' xs ys k k' t b h) (e : IsPair h' O x y) (s : Heap.SameBut O h h') : Zp κ κ' z I O p p' l l' xs ys k k' t b h' :=
  ⟨s.extBut _ _ d.TOz.symm m.zip, s.extBut _ _ d.TITO m.ins, ⟨x, y, e⟩, m.fst.to (fun o => s.extBut _ o d.TOi1.symm) (fun o => s.extBut _ o d.l1TO), m.snd.to (fun o => s.extBut _ o d.TOi2.symm) (fun o => s.extBut _ o d.l2TO)⟩
theorem Zp.more (m : Zp κ κ' z I O p p' l l' xs ys k k' t b h) (s : ∀ c o, h.get? c = some o → h'.get? c = some o) : Zp κ κ' z I O p p' l l' xs ys k k' t b h' :=
  ⟨s _ _ m.zip, s _ _ m.ins, m.out.imp fun x ⟨y, g⟩ => ⟨y, s _ _ g⟩, m.fst.to (fun o => s _ o) (fun o => s _ o), m.snd.to (fun o => s _ o) (fun o => s _ o)⟩
theorem Zp.ty {m : Zp κ κ' z I O p p' l l' xs ys k k' t b h} : h.get? z ≠ none := fun e => by rw [m.zip] at e; cases e
end
/-- all but those of c stay -/
def But (c : List Addr) (h h' : Heap) : Prop := ∀ a o, a ∉ c → h.get? a = some o → h'.get? a = some o
theorem But.of {a : Addr} {c : List Addr} {h h' : Heap} (s : Heap.SameBut a h h') (m : a ∈ c) : But c h h' := fun x o n e => s.extBut _ _ (fun q => n (q ▸ m)) e
theorem But.trans {c : List Addr} {h h1 h' : Heap} (a : But c h h1) (b : But c h1 h') : But c h h' := fun x o n e => b x o n (a x o n e)
section
variable {prog : Program} {w : World} {A : Around} {E : Value → Shared → Prop} {s : Shared} {κ κ' : Kd} {z I O p p' l l' : Addr} {xs ys : Array Value} {k k' : Nat}
theorem zp_item {x y : Value} {Q : Value → Shared → Prop} (d : ZipApart z I O p p' l l') (m : Zp κ κ' z I O p p' l l' xs ys k k' .none false s.heap) (ex : xs[k]? = some x) (ey : ys[k']? = some y)
    (q : ∀ h', Zp κ κ' z I O p p' l l' xs ys (k + 1) (k' + 1) (rawInt s.heap.objs.size) false h' → IsPair h' s.heap.objs.size x y → h'.objs.size = s.heap.objs.size + 1 → But [z, O, p, p'] s.heap h' → Q (.ref s.heap.objs.size) { s with heap := h' }) :
    wpAny (model prog w) A (Builtin.«zip.__next__» ⟨[.ref z], []⟩) (fun r s' => ∃ v, r = .done (.ret v) ∧ Q v s') E s := by
  obtain ⟨x0, y0, go⟩ := m.out
  show wpAny _ _ (field (.ref z) 2 >>= _) _ _ _
  apply wpAny_bind
  apply wpAny_field m.zip rfl (x := .bool false) rfl
  show wpAny _ _ (field (.ref z) 3 >>= _) _ _ _
  apply wpAny_bind
  apply wpAny_field m.zip rfl (x := .ref I) rfl
  apply wpAny_bind
  apply wpAny_seqItems m.ins rfl
  show wpAny _ _ (Builtin.SmallTypes.ownedTupleIsFree (.ref z) >>= _) _ _ _
  apply wpAny_bind
  unfold Builtin.SmallTypes.ownedTupleIsFree
  apply wpAny_bind
  apply wpAny_field m.zip rfl (x := .none) rfl
  apply wpAny_pure
  simp only [if_true]
  apply wpAny_bind
  apply wpAny_rule
  apply wpAny_bind
  apply wpAny_field m.zip rfl (x := .ref O) rfl
  apply wpAny_bind
  refine wpAny_setField_rec m.zip (by simp) fun g1 z1 s1 => ?_
  have m1 := m.setZ (t' := .ellipsis) (b' := false) d z1 s1
  have u1 : But [z, O, p, p'] s.heap g1 := .of s1 (by simp)
  apply wpAny_bind
  simp only [List.zipIdx_cons, List.zipIdx_nil, List.forIn_cons, List.forIn_nil]
  apply wpAny_bind
  apply wpAny_bind
  apply wpAny_onRaise
  show wpAny _ _ (Builtin.SmallTypes.nextOf (.ref p) >>= _) _ _ _
  apply wpAny_bind
  refine feed_next m1.fst d.l1i1 ex fun g2 f2 s2 => wpAny_pure ?_
  have m2 := m1.setF d f2 s2
  have u2 : But [z, O, p, p'] s.heap g2 := u1.trans (.of s2 (by simp))
  have go2 : IsPair g2 O x0 y0 := s2.extBut _ _ d.TOi1 (s1.extBut _ _ d.TOz go)
  apply wpAny_bind
  apply wpAny_seqItems go2 rfl
  apply wpAny_bind
  refine wpAny_updateSeq_pair go2 fun g3 o3 s3 => ?_
  have go3 : IsPair g3 O x y0 := o3
  have m3 := m2.setO d go3 s3
  have u3 : But [z, O, p, p'] s.heap g3 := u2.trans (.of s3 (by simp))
  apply wpAny_bind
  apply wpAny_letGo
  apply wpAny_pure
  apply wpAny_bind
  apply wpAny_bind
  apply wpAny_onRaise
  show wpAny _ _ (Builtin.SmallTypes.nextOf (.ref p') >>= _) _ _ _
  apply wpAny_bind
  refine feed_next m3.snd d.l2i2 ey fun g4 f4 s4 => wpAny_pure ?_
  have m4 := m3.setS d f4 s4
  have u4 : But [z, O, p, p'] s.heap g4 := u3.trans (.of s4 (by simp))
  have go4 : IsPair g4 O x y0 := s4.extBut _ _ d.TOi2 go3
  apply wpAny_bind
  apply wpAny_seqItems go4 rfl
  apply wpAny_bind
  refine wpAny_updateSeq_pair go4 fun g5 o5 s5 => ?_
  have go5 : IsPair g5 O x y := o5
  have m5 := m4.setO d go5 s5
  have u5 : But [z, O, p, p'] s.heap g5 := u4.trans (.of s5 (by simp))
  apply wpAny_bind
  apply wpAny_letGo
  apply wpAny_pure
  apply wpAny_pure
  apply wpAny_bind
  apply wpAny_seqItems go5 rfl
  apply wpAny_bind
  refine wpAny_newTuple ?_
  have sz : g5.objs.size = s.heap.objs.size := by rw [s5.1, s4.1, s3.1, s2.1, s1.1]
  have zl : z < g5.objs.size := Heap.lt_size m5.zip
  show wpAny _ _ (Builtin.SmallTypes.ownedTupleHandOut (.ref z) (.ref g5.objs.size) >>= _) _ _ _
  apply wpAny_bind
  unfold Builtin.SmallTypes.ownedTupleHandOut
  have m6 : Zp κ κ' z I O p p' l l' xs ys (k + 1) (k' + 1) .ellipsis false (g5.push { cls := .type "tuple", data := .seq #[x, y] }) := m5.more fun c o e => Heap.get?_push_of_some _ e
  have t6 : IsPair (g5.push { cls := .type "tuple", data := .seq #[x, y] }) g5.objs.size x y := Heap.get?_push_size _ rfl
  apply wpAny_bind
  refine wpAny_setField_rec m6.zip (by simp) fun g7 z7 s7 => ?_
  have m7 := m6.setZ (t' := rawInt g5.objs.size) (b' := false) d z7 s7
  refine wpAny_setField_rec m7.zip (by simp) fun g8 z8 s8 => ?_
  have m8 := m7.setZ (t' := rawInt g5.objs.size) (b' := false) d z8 s8
  have t8 : IsPair g8 g5.objs.size x y := s8.extBut _ _ (Nat.ne_of_gt zl) (s7.extBut _ _ (Nat.ne_of_gt zl) t6)
  have sz8 : g8.objs.size = g5.objs.size + 1 := by rw [s8.1, s7.1, Heap.size_push]
  have u8 : But [z, O, p, p'] s.heap g8 := fun c o n e => (But.of s8 (by simp)) c o n ((But.of s7 (by simp)) c o n (Heap.get?_push_of_some _ (u5 c o n e)))
  rw [sz] at m8 t8 sz8
  refine wpAny_pure ⟨_, rfl, ?_⟩
  show Q (.ref g5.objs.size) _
  rw [sz]
  exact q g8 m8 t8 sz8 u8
theorem zp_over {Q : Fin → Shared → Prop} (calm : A.handled = none) (d : ZipApart z I O p p' l l') (m : Zp κ κ' z I O p p' l l' xs ys k k' .none false s.heap) (e : xs[k]? = none ∨ ys[k']? = none)
    (q : ∀ h' x, But [z, O, p, p'] s.heap h' → (∃ o, h'.get? x = some o ∧ o.cls = .type "StopIteration") → E (.ref x) { s with heap := h' }) : wpAny (model prog w) A (Builtin.«zip.__next__» ⟨[.ref z], []⟩) Q E s := by
  obtain ⟨x0, y0, go⟩ := m.out
  show wpAny _ _ (field (.ref z) 2 >>= _) _ _ _
  apply wpAny_bind
  apply wpAny_field m.zip rfl (x := .bool false) rfl
  show wpAny _ _ (field (.ref z) 3 >>= _) _ _ _
  apply wpAny_bind
  apply wpAny_field m.zip rfl (x := .ref I) rfl
  apply wpAny_bind
  apply wpAny_seqItems m.ins rfl
  show wpAny _ _ (Builtin.SmallTypes.ownedTupleIsFree (.ref z) >>= _) _ _ _
  apply wpAny_bind
  unfold Builtin.SmallTypes.ownedTupleIsFree
  apply wpAny_bind
  apply wpAny_field m.zip rfl (x := .none) rfl
  apply wpAny_pure
  simp only [if_true]
  apply wpAny_bind
  apply wpAny_rule
  apply wpAny_bind
  apply wpAny_field m.zip rfl (x := .ref O) rfl
  apply wpAny_bind
  refine wpAny_setField_rec m.zip (by simp) fun g1 z1 s1 => ?_
  have m1 := m.setZ (t' := .ellipsis) (b' := false) d z1 s1
  have u1 : But [z, O, p, p'] s.heap g1 := .of s1 (by simp)
  apply wpAny_bind
  simp only [List.zipIdx_cons, List.zipIdx_nil, List.forIn_cons, List.forIn_nil]
  apply wpAny_bind
  apply wpAny_bind
  apply wpAny_onRaise
  show wpAny _ _ (Builtin.SmallTypes.nextOf (.ref p) >>= _) _ _ _
  cases ex : xs[k]? with
  | none =>
    apply wpAny_bind
    refine feed_over calm m1.fst ex fun g2 a s2 st => ?_
    have zz := s2 _ _ d.i1z.symm m1.zip
    obtain ⟨oa, ea, ca⟩ := st
    have na : a ≠ z := fun h => by rw [h, zz] at ea; cases ea; simp at ca
    refine wpAny_setField_rec zz (by simp) fun g3 _ s3 => q g3 a ?_ ⟨oa, s3.extBut _ _ na ea, ca⟩
    exact u1.trans (But.trans (fun c o n e => s2 _ _ (fun h => n (by simp [h])) e) (.of s3 (by simp)))
  | some x =>
    have ey : ys[k']? = none := e.resolve_left (by rw [ex]; exact fun h => nomatch h)
    apply wpAny_bind
    refine feed_next m1.fst d.l1i1 ex fun g2 f2 s2 => wpAny_pure ?_
    have m2 := m1.setF d f2 s2
    have u2 : But [z, O, p, p'] s.heap g2 := u1.trans (.of s2 (by simp))
    have go2 : IsPair g2 O x0 y0 := s2.extBut _ _ d.TOi1 (s1.extBut _ _ d.TOz go)
    apply wpAny_bind
    apply wpAny_seqItems go2 rfl
    apply wpAny_bind
    refine wpAny_updateSeq_pair go2 fun g3 o3 s3 => ?_
    have m3 := m2.setO (x := x) (y := y0) d o3 s3
    have u3 : But [z, O, p, p'] s.heap g3 := u2.trans (.of s3 (by simp))
    apply wpAny_bind
    apply wpAny_letGo
    apply wpAny_pure
    apply wpAny_bind
    apply wpAny_bind
    apply wpAny_onRaise
    show wpAny _ _ (Builtin.SmallTypes.nextOf (.ref p') >>= _) _ _ _
    apply wpAny_bind
    refine feed_over calm m3.snd ey fun g4 a s4 st => ?_
    have zz := s4 _ _ d.i2z.symm m3.zip
    obtain ⟨oa, ea, ca⟩ := st
    have na : a ≠ z := fun h => by rw [h, zz] at ea; cases ea; simp at ca
    refine wpAny_setField_rec zz (by simp) fun g5 _ s5 => q g5 a ?_ ⟨oa, s5.extBut _ _ na ea, ca⟩
    exact u3.trans (But.trans (fun c o n e => s4 _ _ (fun h => n (by simp [h])) e) (.of s5 (by simp)))
end
section
variable {prog : Program} {w : World} {A : Around} {E : Value → Shared → Prop} {s : Shared} {κ κ' : Kd} {z I O p p' l l' : Addr} {xs ys : Array Value} {k k' : Nat} {T : Addr} {f : Bool} {o : Obj} {x y : Value} {Q : Option Value → Shared → Prop}
theorem zp_is {t : Value} {b : Bool} (m : Zp κ κ' z I O p p' l l' xs ys k k' t b s.heap) : s.TypeIs (.ref z) "zip" := ⟨_, m.zip, rfl⟩
theorem zp_next {t : Value} {b : Bool} (m : Zp κ κ' z I O p p' l l' xs ys k k' t b s.heap) {R : Value → Shared → Prop} (go : wpAny (model prog w) A.in1 (Builtin.«zip.__next__» ⟨[.ref z], []⟩) (fun r s' => ∃ v, r = .done (.ret v) ∧ Q (some v) s') R s)
    (ov : ∀ x s', R x s' → ∃ a, x = .ref a ∧ (∃ o, s'.heap.get? a = some o ∧ o.cls = .type "StopIteration") ∧ Q none s') : wpAny (model prog w) A (pyNext (.ref z)) Q E s := by
  unfold pyNext
  apply wpAny_bind
  apply wpAny_attempt
  refine wpAny_callSpecial?_slot (name := Str.ofString "__next__") (zp_is m) F.slot_zip_next ?_
  refine wpAny_call_entry F.slot_zip_next (zp_is m) F.entry_zip_next ?_ (F.args_zip_next_1 _)
  refine wpAny_mono go (fun r s' hr => ?_) fun x s' hx => ?_
  · obtain ⟨v, e, hq⟩ := hr
    exact ⟨v, e, wpAny_pure hq⟩
  · obtain ⟨a, rfl, ⟨oa, ea, ca⟩, hq⟩ := ov x s' hx
    apply wpAny_bind
    refine wpAny_isInstance (v := .ref a) (s := s') (T := "StopIteration") (b := true) ⟨oa, ea, ca⟩ isSubtype_stop ?_
    exact wpAny_pure hq
theorem py_item (d : ZipApart z I O p p' l l') (m : Zp κ κ' z I O p p' l l' xs ys k k' .none false s.heap) (ex : xs[k]? = some x) (ey : ys[k']? = some y)
    (q : ∀ h', Zp κ κ' z I O p p' l l' xs ys (k + 1) (k' + 1) (rawInt s.heap.objs.size) false h' → IsPair h' s.heap.objs.size x y → h'.objs.size = s.heap.objs.size + 1 → But [z, O, p, p'] s.heap h' → Q (some (.ref s.heap.objs.size)) { s with heap := h' }) :
    wpAny (model prog w) A (pyNext (.ref z)) Q E s :=
  zp_next m (R := fun _ _ => False) (zp_item d m ex ey (Q := fun v s' => Q (some v) s') q) fun _ _ h => h.elim
theorem py_over (calm : A.handled = none) (d : ZipApart z I O p p' l l') (m : Zp κ κ' z I O p p' l l' xs ys k k' .none false s.heap) (e : xs[k]? = none ∨ ys[k']? = none)
    (q : ∀ h', But [z, O, p, p'] s.heap h' → Q none { s with heap := h' }) : wpAny (model prog w) A (pyNext (.ref z)) Q E s :=
  zp_next m (R := fun x s' => ∃ a h', x = .ref a ∧ s' = { s with heap := h' } ∧ But [z, O, p, p'] s.heap h' ∧ ∃ o, h'.get? a = some o ∧ o.cls = .type "StopIteration")
    (zp_over (A := A.in1) calm d m e fun h' a u st => ⟨a, h', rfl, rfl, u, st⟩) fun x s' ⟨a, h', e1, e2, u, st⟩ => by subst e2; exact ⟨a, e1, st, q h' u⟩
end
/-! making one -/
def Sq (κ : Kd) (h : Heap) (l : Addr) (xs : Array Value) : Prop :=
  match κ with
  | .lst => h.IsList l xs
  | .tup => h.IsTuple l xs
abbrev itO (n : String) (l : Addr) : Obj := { cls := .type n, data := .fields #[.ref l, .int 0 0] }
abbrev zh5 (n n' : String) (h : Heap) (l l' : Addr) : Heap :=
  ((((h.push (itO n l)).push (itO n' l')).push { cls := .type "tuple", data := .seq #[.ref h.objs.size, .ref (h.push (itO n l)).objs.size] }).push { cls := .type "tuple", data := .seq #[.none, .none] }).push
    { cls := .type "zip", data := .fields #[.none, .bool false, .bool false, .ref ((h.push (itO n l)).push (itO n' l')).objs.size, .ref (((h.push (itO n l)).push (itO n' l')).push { cls := .type "tuple", data := .seq #[.ref h.objs.size, .ref (h.push (itO n l)).objs.size] }).objs.size] }
abbrev zhN (n n' : String) (h : Heap) (l l' : Addr) : Nat :=
  ((((h.push (itO n l)).push (itO n' l')).push { cls := .type "tuple", data := .seq #[.ref h.objs.size, .ref (h.push (itO n l)).objs.size] }).push { cls := .type "tuple", data := .seq #[.none, .none] }).objs.size
theorem zm_tl (l l' : Addr) (xs ys : Array Value) :
    Meets (Builtin.«zip.__new__» ⟨[.type "zip", .ref l, .ref l'], []⟩) (fun _ R s => s.heap.IsTuple l xs ∧ s.heap.IsList l' ys ∧ R (.ok (.ret (.ref (zhN "tuple_iterator" "list_iterator" s.heap l l')))) { s with heap := zh5 "tuple_iterator" "list_iterator" s.heap l l' }) :=
  .of_wp fun prog w A R s h => by
    obtain ⟨hh, gg, dd, tt, oo⟩ := s
    obtain ⟨a1, a2, h⟩ := h
    have sub := sub_zip
    have b1 : Heap.IsTuple (Shared.heap ⟨hh, gg, dd, tt, oo⟩) l xs := a1
    have b2 : Heap.IsList (Shared.heap ⟨hh.push (itO "tuple_iterator" l), gg, dd, tt, oo⟩) l' ys := Heap.IsList.push a2 _
    wp_walk using wpAny_pyIter_tuple b1, wpAny_pyIter_list b2
    exact ⟨_, rfl, h⟩
theorem zm_lt (l l' : Addr) (xs ys : Array Value) :
    Meets (Builtin.«zip.__new__» ⟨[.type "zip", .ref l, .ref l'], []⟩) (fun _ R s => s.heap.IsList l xs ∧ s.heap.IsTuple l' ys ∧ R (.ok (.ret (.ref (zhN "list_iterator" "tuple_iterator" s.heap l l')))) { s with heap := zh5 "list_iterator" "tuple_iterator" s.heap l l' }) :=
  .of_wp fun prog w A R s h => by
    obtain ⟨hh, gg, dd, tt, oo⟩ := s
    obtain ⟨a1, a2, h⟩ := h
    have sub := sub_zip
    have b1 : Heap.IsList (Shared.heap ⟨hh, gg, dd, tt, oo⟩) l xs := a1
    have b2 : Heap.IsTuple (Shared.heap ⟨hh.push (itO "list_iterator" l), gg, dd, tt, oo⟩) l' ys := Heap.IsTuple.push a2 _
    wp_walk using wpAny_pyIter_list b1, wpAny_pyIter_tuple b2
    exact ⟨_, rfl, h⟩
section
variable {prog : Program} {w : World} {A : Around} {E : Value → Shared → Prop} {s : Shared} {l l' : Addr} {xs ys : Array Value} {Q : Value → Shared → Prop}
theorem put_last (h : Heap) (o : Obj) (f : o.isFreed = false) : (h.push o).get? h.objs.size = some o := Heap.get?_push_size h f
/-- what a new zip's heap holds -/
theorem zh5_is (n n' : String) (h : Heap) (l l' : Addr) : zhN n n' h l l' = h.objs.size + 4 ∧ (zh5 n n' h l l').objs.size = h.objs.size + 5 ∧
    (zh5 n n' h l l').get? (h.objs.size + 4) = some { cls := .type "zip", data := .fields #[.none, .bool false, .bool false, .ref (h.objs.size + 2), .ref (h.objs.size + 3)] } ∧
    IsPair (zh5 n n' h l l') (h.objs.size + 2) (.ref h.objs.size) (.ref (h.objs.size + 1)) ∧ IsPair (zh5 n n' h l l') (h.objs.size + 3) .none .none ∧
    (zh5 n n' h l l').get? h.objs.size = some (itO n l) ∧ (zh5 n n' h l l').get? (h.objs.size + 1) = some (itO n' l') ∧ ∀ c o, h.get? c = some o → (zh5 n n' h l l').get? c = some o := by
  have k1 : (h.push (itO n l)).objs.size = h.objs.size + 1 := Heap.size_push ..
  have k2 : ((h.push (itO n l)).push (itO n' l')).objs.size = h.objs.size + 2 := by rw [Heap.size_push, k1]
  have k3 : (((h.push (itO n l)).push (itO n' l')).push { cls := .type "tuple", data := .seq #[.ref h.objs.size, .ref (h.push (itO n l)).objs.size] }).objs.size = h.objs.size + 3 := by rw [Heap.size_push, k2]
  have k4 : zhN n n' h l l' = h.objs.size + 4 := by show Array.size _ = _; rw [Heap.size_push, k3]
  have r1 : (h.push (itO n l)).get? h.objs.size = some (itO n l) := Heap.get?_push_size _ rfl
  have r2 : ((h.push (itO n l)).push (itO n' l')).get? (h.push (itO n l)).objs.size = some (itO n' l') := Heap.get?_push_size _ rfl
  have r3 := put_last ((h.push (itO n l)).push (itO n' l')) { cls := .type "tuple", data := .seq #[.ref h.objs.size, .ref (h.push (itO n l)).objs.size] } rfl
  have r4 := put_last (((h.push (itO n l)).push (itO n' l')).push { cls := .type "tuple", data := .seq #[.ref h.objs.size, .ref (h.push (itO n l)).objs.size] }) { cls := .type "tuple", data := .seq #[.none, .none] } rfl
  have r5 := put_last ((((h.push (itO n l)).push (itO n' l')).push { cls := .type "tuple", data := .seq #[.ref h.objs.size, .ref (h.push (itO n l)).objs.size] }).push { cls := .type "tuple", data := .seq #[.none, .none] })
    { cls := .type "zip", data := .fields #[.none, .bool false, .bool false, .ref ((h.push (itO n l)).push (itO n' l')).objs.size, .ref (((h.push (itO n l)).push (itO n' l')).push { cls := .type "tuple", data := .seq #[.ref h.objs.size, .ref (h.push (itO n l)).objs.size] }).objs.size] } rfl
  have up : ∀ {g : Heap} {c : Addr} {o o' : Obj}, g.get? c = some o → (g.push o').get? c = some o := fun e => Heap.get?_push_of_some _ e
  refine ⟨k4, by rw [Heap.size_push]; show zhN n n' h l l' + 1 = _; rw [k4], ?_, ?_, ?_, up (up (up (up r1))), ?_, fun c o e => up (up (up (up (up e))))⟩
  · rw [← k4, ← k2, ← k3]; exact r5
  · rw [← k2, ← k1]; exact up (up r3)
  · rw [← k3]; exact up r4
  · rw [← k1]; exact up (up (up r2))
theorem call_zp {κ κ' : Kd} (a1 : Sq κ s.heap l xs) (a2 : Sq κ' s.heap l' ys)
    (q : ∀ h', Zp κ κ' (s.heap.objs.size + 4) (s.heap.objs.size + 2) (s.heap.objs.size + 3) s.heap.objs.size (s.heap.objs.size + 1) l l' xs ys 0 0 .none false h' → h'.objs.size = s.heap.objs.size + 5 →
      (∀ c o, s.heap.get? c = some o → h'.get? c = some o) → Q (.ref (s.heap.objs.size + 4)) { s with heap := h' }) : wpAny (model prog w) A (call (.type "zip") [.ref l, .ref l']) Q E s := by
  cases κ with
  | lst =>
    cases κ' with
    | lst => exact call_zip_2 a1 a2 fun h' e1 e2 e3 e4 e5 e6 up => q h' ⟨e1, e2, ⟨_, _, e3⟩, ⟨e4, a1.at fun o => up _ o⟩, ⟨e5, a2.at fun o => up _ o⟩⟩ e6 up
    | tup =>
      refine callType_new F.called_zip (by decide) (F.typeCall_zip_2 _ _) (F.newCall_zip_2 _ _) (fun obj => F.args_object_init_3 obj _ _) F.entry_zip_new (zm_lt l l' xs ys) ⟨a1, a2, ?_⟩
      obtain ⟨e0, e1, e2, e3, e4, e5, e6, up⟩ := zh5_is "list_iterator" "tuple_iterator" s.heap l l'
      show _ ∧ _
      rw [e0]
      exact ⟨⟨_, e2, rfl⟩, q _ ⟨e2, e3, ⟨_, _, e4⟩, ⟨⟨_, e5, rfl, rfl⟩, a1.at fun o => up _ o⟩, ⟨⟨_, e6, rfl, rfl⟩, a2.at fun o => up _ o⟩⟩ e1 up⟩
  | tup =>
    cases κ' with
    | lst =>
      refine callType_new F.called_zip (by decide) (F.typeCall_zip_2 _ _) (F.newCall_zip_2 _ _) (fun obj => F.args_object_init_3 obj _ _) F.entry_zip_new (zm_tl l l' xs ys) ⟨a1, a2, ?_⟩
      obtain ⟨e0, e1, e2, e3, e4, e5, e6, up⟩ := zh5_is "tuple_iterator" "list_iterator" s.heap l l'
      show _ ∧ _
      rw [e0]
      exact ⟨⟨_, e2, rfl⟩, q _ ⟨e2, e3, ⟨_, _, e4⟩, ⟨⟨_, e5, rfl, rfl⟩, a1.at fun o => up _ o⟩, ⟨⟨_, e6, rfl, rfl⟩, a2.at fun o => up _ o⟩⟩ e1 up⟩
    | tup => exact RZ.call_zipT a1 a2 fun h' e1 e2 e3 e4 e5 e6 up => q h' ⟨e1, e2, ⟨_, _, e3⟩, ⟨e4, a1.at fun o => up _ o⟩, ⟨e5, a2.at fun o => up _ o⟩⟩ e6 up
end
/-! ### walked -/
def SqK (K : PySem.W.Frag) (κ : Kd) (H : Hp) (a : Addr) (xs : List V) : Prop :=
  match κ with
  | .lst => SqL K H a xs
  | .tup => SqT K H a xs
def It1 (κ : Kd) (h : Heap) (p l : Addr) (k : Nat) : Prop :=
  match κ with
  | .lst => h.IsListIter p l k
  | .tup => h.IsTupleIter p l k
theorem It1.to {κ : Kd} {h h' : Heap} {p l : Addr} {k : Nat} (f : It1 κ h p l k) (e : ∀ o, h.get? p = some o → h'.get? p = some o) : It1 κ h' p l k := by
  cases κ with
  | lst => exact f.at e
  | tup => exact f.at e
theorem It1.obj {κ : Kd} {h : Heap} {p l : Addr} {k : Nat} (f : It1 κ h p l k) : ∃ o, h.get? p = some o ∧ ∀ v, o.data ≠ .cell v := by
  cases κ with
  | lst => obtain ⟨o, e, _, d⟩ := f; exact ⟨o, e, fun v q => by rw [d] at q; cases q⟩
  | tup => obtain ⟨o, e, _, d⟩ := f; exact ⟨o, e, fun v q => by rw [d] at q; cases q⟩
theorem Feed.it {κ : Kd} {h : Heap} {p l : Addr} {k : Nat} {xs : Array Value} (f : Feed κ h p l k xs) : It1 κ h p l k := by
  cases κ with
  | lst => exact f.1
  | tup => exact f.1
theorem It1.feed {κ : Kd} {h : Heap} {p l : Addr} {k : Nat} {xs : Array Value} (f : It1 κ h p l k) (g : Sq κ h l xs) : Feed κ h p l k xs := by
  cases κ with
  | lst => exact ⟨f, g⟩
  | tup => exact ⟨f, g⟩
section
variable {X : Cx} {pins : List (Addr × Obj)} {σ : L2.St} {H : Hp} {s : Shared}
theorem SqK.is (I : Inv X pins σ H s) {κ : Kd} {a : Addr} {xs : List V} (h : SqK X.K κ H a xs) : ∃ us, Vals xs us ∧ Sq κ s.heap a us.toArray ∧ xs.length ≤ sizeLine := by
  cases κ with
  | lst =>
    obtain ⟨us, r, p, hz⟩ := I.list h
    exact ⟨us, r, p.isList, hz⟩
  | tup =>
    obtain ⟨us, r, p, hz⟩ := I.tuple h
    exact ⟨us, r, p, hz⟩
theorem SqK.inj (I : Inv X pins σ H s) {κ : Kd} {a : Addr} {xs ys : List V} (h : SqK X.K κ H a xs) (h' : SqK X.K κ H a ys) : xs = ys := by
  cases κ with
  | lst => exact I.list_inj h h'
  | tup => exact I.tuple_inj h h'
theorem Sq.lt {κ : Kd} {h : Heap} {l : Addr} {xs : Array Value} (g : Sq κ h l xs) : l < h.objs.size := by
  cases κ with
  | lst => obtain ⟨o, e, _⟩ := g; exact Heap.lt_size e
  | tup => obtain ⟨o, e, _⟩ := g; exact Heap.lt_size e
theorem Sq.to {κ : Kd} {h h' : Heap} {l : Addr} {xs : Array Value} (g : Sq κ h l xs) (e : ∀ o, h.get? l = some o → h'.get? l = some o) : Sq κ h' l xs := by
  cases κ with
  | lst => exact g.at e
  | tup => exact g.at e
end
/-- a list or tuple at a, one at b, as they stand at each turn; the items in new pairs -/
def ItM (K : PySem.W.Frag) (κ κ' : Kd) (a b : Addr) : It :=
  ⟨fun i H => ∃ (xs ys : List V) (x y : V), SqK K κ H a xs ∧ SqK K κ' H b ys ∧ xs[i]? = some x ∧ ys[i]? = some y,
    fun i H v H' => ∃ T x y, v = .ref T ∧ H T = none ∧ H' = upd H T (.tup [x, y]) ∧ (∀ xs, SqK K κ H a xs → xs[i]? = some x) ∧ ∀ ys, SqK K κ' H b ys → ys[i]? = some y,
    fun i H => ∃ xs ys : List V, SqK K κ H a xs ∧ SqK K κ' H b ys ∧ (xs.length ≤ i ∨ ys.length ≤ i)⟩
structure Zt (κ κ' : Kd) (z I O p p' a b : Addr) (i : Nat) (h : Heap) : Prop where
  zip : h.get? z = some { cls := .type "zip", dict := none, data := .fields #[.none, .bool false, .bool false, .ref I, .ref O], slots := #[] }
  ins : IsPair h I (.ref p) (.ref p')
  out : ∃ x y, IsPair h O x y
  fst : It1 κ h p a i
  snd : It1 κ' h p' b i
theorem turn_m {P : Program} {w : World} {K : PySem.W.Frag} {es : List Expr} {kk : Nat} {tp : Pos} {κ κ' : Kd} {z I O p p' a b : Addr} (d : ZipApart z I O p p' a b) :
    Turn P w K (.Tuple es kk tp) (ItM K κ κ' a b) [z, I, O, p, p'] z (Zt κ κ' z I O p p' a b) where
  mem := List.mem_cons_self
  obj := fun i h st c hc => by
    simp only [List.mem_cons, List.not_mem_nil, or_false] at hc
    obtain ⟨x, y, ho⟩ := st.out
    rcases hc with rfl | rfl | rfl | rfl | rfl
    · exact ⟨_, st.zip, fun v q => nomatch q⟩
    · exact ⟨_, st.ins, fun v q => nomatch q⟩
    · exact ⟨_, ho, fun v q => nomatch q⟩
    · exact st.fst.obj
    · exact st.snd.obj
  keep := fun i h h' st k => by
    obtain ⟨x, y, ho⟩ := st.out
    exact ⟨k _ (by simp) _ st.zip, k _ (by simp) _ st.ins, ⟨x, y, k _ (by simp) _ ho⟩, st.fst.to fun o => k _ (by simp) o, st.snd.to fun o => k _ (by simp) o⟩
  item := by
    intro X hP hw hK hc i pins s σ H E J hf st ⟨xs, ys, x, y, hx, hy, ex, ey⟩
    subst hP hw hK
    obtain ⟨us, ru, gu, _⟩ := hx.is J
    obtain ⟨vs, rv, gv, _⟩ := hy.is J
    obtain ⟨u, eu, rx⟩ := ru.get ex
    obtain ⟨v, ev, ry⟩ := rv.get ey
    have m : Zp κ κ' z I O p p' a b us.toArray vs.toArray i i .none false s.heap := ⟨st.zip, st.ins, st.out, st.fst.feed gu, st.snd.feed gv⟩
    have zl : z < s.heap.objs.size := Heap.lt_size st.zip
    refine py_item d m (x := u) (y := v) (by simpa using eu) (by simpa using ev) fun h1 m1 t1 z1 u1 => ?_
    refine ⟨_, rfl, wpAny_letOwnedTupleGo_zip (s := { s with heap := h1 }) m1.zip fun h2 zz sb => ?_⟩
    have m2 := m1.setZ (t' := .none) (b' := false) d zz sb
    have t2 : h2.get? s.heap.objs.size = some { cls := .type "tuple", data := .seq #[u, v] } := sb.extBut _ _ (Nat.ne_of_gt zl) t1
    have new : ObjOk X.prog X.w (upd H s.heap.objs.size (.tup [x, y])) h2 s.heap.objs.size (.tup [x, y]) := ⟨by show 2 ≤ sizeLine; decide, [u, v], .cons rx (.cons ry .nil), ⟨_, t2, rfl, _, rfl⟩⟩
    have J1 : Inv X pins σ (upd H s.heap.objs.size (.tup [x, y])) { s with heap := h2 } :=
      J.turnedNew (t' := s.toks) (ch := [z, I, O, p, p']) (fun c o n q => sb.extBut _ _ (fun e => n (by simp [e])) (u1 c o (fun e => n (by simp at e ⊢; rcases e with e | e | e | e <;> simp [e])) q)) hf (Nat.le_refl _) new
    refine ⟨.ref s.heap.objs.size, _, J1, rfl, ⟨_, x, y, rfl, J.hok.fresh (Nat.le_refl _), rfl, fun l hl => by rw [SqK.inj J hl hx]; exact ex, fun l hl => by rw [SqK.inj J hl hy]; exact ey⟩, ⟨m2.zip, m2.ins, m2.out, m2.fst.it, m2.snd.it⟩, fun c hcm => ?_⟩
    have lt : c < s.heap.objs.size := by
      simp only [List.mem_cons, List.not_mem_nil, or_false] at hcm
      obtain ⟨_, _, ho⟩ := st.out
      rcases hcm with rfl | rfl | rfl | rfl | rfl
      · exact zl
      · exact Heap.lt_size st.ins
      · exact Heap.lt_size ho
      · obtain ⟨_, e, _⟩ := st.fst.obj; exact Heap.lt_size e
      · obtain ⟨_, e, _⟩ := st.snd.obj; exact Heap.lt_size e
    rw [upd_ne (Nat.ne_of_lt lt)]
    exact (hf c hcm).1
  done := by
    intro X hP hw hK hc i pins s σ H E J hf st ⟨xs, ys, hx, hy, hend⟩
    subst hP hw hK
    obtain ⟨us, ru, gu, _⟩ := hx.is J
    obtain ⟨vs, rv, gv, _⟩ := hy.is J
    have m : Zp κ κ' z I O p p' a b us.toArray vs.toArray i i .none false s.heap := ⟨st.zip, st.ins, st.out, st.fst.feed gu, st.snd.feed gv⟩
    have l1 := ru.length
    have l2 := rv.length
    have he : us.toArray[i]? = none ∨ vs.toArray[i]? = none := hend.imp (fun q => by simp; omega) fun q => by simp; omega
    exact py_over (J.ok.hd hc) d m he fun h1 u1 => ⟨rfl, J.turnedL (t' := s.toks) (ch := [z, I, O, p, p']) (fun c o n q => u1 c o (fun e => n (by simp at e ⊢; rcases e with e | e | e | e <;> simp [e])) q) hf⟩
  self := fun A i s Q E st h => wpAny_pyIter_zip st.zip h
theorem five_new {X : Cx} {pins : List (Addr × Obj)} {σ : L2.St} {H : Hp} {s : Shared} (I : Inv X pins σ H s) : ∀ c, c ∈ [s.heap.objs.size + 4, s.heap.objs.size + 2, s.heap.objs.size + 3, s.heap.objs.size, s.heap.objs.size + 1] → FpOk X pins H c := fun c hc => by
  have le : s.heap.objs.size ≤ c := by
    simp only [List.mem_cons, List.not_mem_nil, or_false] at hc
    omega
  exact I.fpOk le (I.hok.fresh le)
def iZipM (K : PySem.W.Frag) (ta : TA) : TI := fun σ H R => ta σ H fun vs H1 => ∃ κ κ' a b xs ys, vs = [.ref a, .ref b] ∧ SqK K κ H1 a xs ∧ SqK K κ' H1 b ys ∧ R (ItM K κ κ' a b) H1
theorem pi_zipM {X : Cx} {e e2 : Expr} {ta : TA} {p pos tp : Pos} {es : List Expr} {kk : Nat} (hg : Gl X "zip") (hm : X.mg "zip" = none) (ha : PA X [e, e2] ta)
    (hs : starEach [e, e2] X.env = (false, eval e X.env) :: starEach [e2] X.env := by rfl) (hpl : (backTo pos (starEach [e2] X.env)).any (·.1) = false := by rfl) : PI X (.Tuple es kk tp) (.Call (.Name "zip" p) [e, e2] [] pos) (iZipM X.K ta) := by
  refine ⟨fun pins s σ H R I h => ?_⟩
  refine Call_ (ld_blt I hg hm PyProof.Rows.boot_zip (PyProof.Rows.callWith_type1 (thn (ha.run pos pins s σ H _ I h) fun us s1 ⟨vs, H1, I1, r1, q1⟩ => ?_) hs hpl))
  obtain ⟨κ, κ', a, b, xs, ys, rfl, hx, hy, q⟩ := q1
  obtain ⟨u, v, rfl, rx, ry⟩ := vals2 r1
  cases rx
  cases ry
  obtain ⟨us, ru, gu, _⟩ := hx.is I1
  obtain ⟨ws, rw', gw, _⟩ := hy.is I1
  refine call_zp gu gw fun h' m sz up => wpAny_pyIter_zip m.zip ?_
  exact ⟨s1.heap.objs.size + 4, [s1.heap.objs.size + 4, s1.heap.objs.size + 2, s1.heap.objs.size + 3, s1.heap.objs.size, s1.heap.objs.size + 1], _, _, H1, rfl, I1.kept (t' := s1.toks) up,
    turn_m (PySem.W.ktu_apart s1.heap.objs.size a b gu.lt gw.lt), ⟨m.zip, m.ins, m.out, m.fst.it, m.snd.it⟩, five_new I1, q⟩
/-! ### dict(zip(..)) -/
/-- what a dict gets of two rows: keys, values -/
def tDictZ (K : PySem.W.Frag) (ta : TA) : TE := fun σ H Q => ta σ H fun vs H1 => ∃ κ κ' a b, ∃ (ks : List Key) (ys : List V), vs = [.ref a, .ref b] ∧ SqK K κ H1 a (ks.map kV) ∧ SqK K κ' H1 b ys ∧ New H1 (.dK (mergeK [] (ks.zip ys))) fun p H2 => Q (.ref p) H2
/-! ### zips, dicts of zips, in a walk -/
theorem g_dictZ {K : PySem.W.Frag} {σ : L2.St} {H : Hp} {Q : VK} {ta : TA} (h : ta σ H fun vs H1 => ∃ κ κ' a b, ∃ (ks : List Key) (ys : List V), vs = [.ref a, .ref b] ∧ SqK K κ H1 a (ks.map kV) ∧ SqK K κ' H1 b ys ∧ New H1 (.dK (mergeK [] (ks.zip ys))) fun p H2 => Q (.ref p) H2) : tDictZ K ta σ H Q := h
theorem g_zipM {K : PySem.W.Frag} {σ : L2.St} {H : Hp} {R : It → Hp → Prop} {ta : TA} (h : ta σ H fun vs H1 => ∃ κ κ' a b xs ys, vs = [.ref a, .ref b] ∧ SqK K κ H1 a xs ∧ SqK K κ' H1 b ys ∧ R (ItM K κ κ' a b) H1) : iZipM K ta σ H R := h
open PySem.F (sub_list_set sub_list_frozenset)
/-! ### set(list of ints), sorted(set of ints) of any number -/
section
variable {P : Program} {w : World} {A : Around} {E : Value → Shared → Prop} {s : Shared}
theorem call_set_lstI {l : Addr} {items : Array Value} (ns : List Int) {Q : Value → Shared → Prop} (hh : A.handled = none) (hl : s.heap.IsList l items) (hit : IntsAre items.toList ns) (hb : ns.length + 1 < scanBound)
    (h : ∀ (h' : Heap) (tk c : Nat), SetR w h' s.heap.objs.size (fun j => decide (j ∈ ns)) c → c ≤ ns.length → (∀ b o, s.heap.get? b = some o → h'.get? b = some o) → Q (.ref s.heap.objs.size) { s with heap := h', toks := tk }) :
    wpAny (model P w) A (call (.type "set") [.ref l]) Q E s := by
  have hisz : items.size = ns.length := by
    have q := IntsAre.length hit
    rw [Array.length_toList] at q
    exact q
  obtain ⟨c, tl, hmro⟩ := F.called_set.mro
  have hmade := F.called_set.made
  have hsub := F.called_set.sub
  refine wpAny_call (codeAny_of_tree ?_)
  show wpAny _ _ (callAny (.type "set") _) _ _ _
  refine wpAny_pure ⟨Code.quiet_builtin _ (by decide +kernel), codeAny_builtin F.entry_type_call ?_⟩
  rw [Around.under_plain (weight_type_call_type "set" [.ref l] []) rfl]
  have h1 := F.called_set.notType
  have h2 := F.called_set.canCreate
  have hct := F.typeCall_set_1 (.ref l)
  repeat (any_goals (first | assumption | wp_step))

  refine codeAny_mono (code_set_led1 (.ref l) (E := E) (Q₁ := fun obj s₁ => obj = .ref s.heap.objs.size ∧ s₁ = { s with heap := s.heap.push { cls := .type "set", dict := none, data := .set #[] 0 (.fresh 0 0 (!w.params.followText "set-order")) } }) ⟨rfl, rfl⟩) fun r s₁ hr => ?_
  cases r with
  | error e => exact hr
  | ok fl =>
    cases fl with
    | ret obj =>
      obtain ⟨rfl, rfl⟩ := hr
      have hS : (s.heap.push { cls := .type "set", dict := none, data := .set #[] 0 (.fresh 0 0 (!w.params.followText "set-order")) }).get? s.heap.objs.size = some { cls := .type "set", dict := none, data := .set #[] 0 (.fresh 0 0 (!w.params.followText "set-order")) } := Heap.get?_push_size _ rfl
      have hT : Shared.TypeIs { s with heap := s.heap.push { cls := .type "set", dict := none, data := .set #[] 0 (.fresh 0 0 (!w.params.followText "set-order")) } } (.ref s.heap.objs.size) "set" := ⟨_, hS, rfl⟩
      have hli := F.called_set.init.lookup
      have hbi := F.called_set.init.bind (.ref s.heap.objs.size)
      repeat (any_goals (first | assumption | wp_step))

      refine codeAny_mono (codeAny_call_builtin (R := wants (fun r s₂ => r = .none ∧ ∃ h' tk c, s₂ = { s with heap := h', toks := tk } ∧ SetR w h' s.heap.objs.size (fun j => decide (j ∈ ns)) c ∧ c ≤ ns.length ∧
          (∀ b o, s.heap.get? b = some o → h'.get? b = some o)) E) F.called_set.init.plain F.entry_set_init (check_set_init_1 hT ?_)) fun r₂ s₂ hr₂ => ?_
      · obtain ⟨ol, hol, hcl, nl, hdl⟩ := hl
        obtain ⟨ocls, odict, odata, oslots⟩ := ol
        simp only at hcl hdl
        subst hcl; subst hdl
        have hol' : (s.heap.push { cls := .type "set", dict := none, data := .set #[] 0 (.fresh 0 0 (!w.params.followText "set-order")) }).get? l = some { cls := .type "list", dict := odict, data := .seq items nl, slots := oslots } := Heap.get?_push_of_some _ hol
        have hsls := sub_list_set
        have hslf := sub_list_frozenset
        have hne : (Value.type "list" == Value.type "dict") = false := by decide
        have hl1 : (s.heap.push { cls := .type "set", dict := none, data := .set #[] 0 (.fresh 0 0 (!w.params.followText "set-order")) }).IsList l items := ⟨_, hol', rfl, nl, rfl⟩
        unfold Builtin.«set.__init__» noKeywords Builtin.Frozenset.updateFrom
        generalize hPI : pyIter = PI
        wp_walk
        subst hPI

        refine wpAny_pyIter_list hl1 ?_
        refine wpAny_bind (wpAny_runValue ?_)
        have hlS : l < s.heap.objs.size := Heap.lt_size hol
        have hh3 : A.in1.in1.in1.handled = none := by simp [hh]
        have hz1 : (s.heap.push { cls := .type "set", dict := none, data := .set #[] 0 (.fresh 0 0 (!w.params.followText "set-order")) }).objs.size = s.heap.objs.size + 1 := Heap.size_push ..
        have hneI : l ≠ (s.heap.push { cls := .type "set", dict := none, data := .set #[] 0 (.fresh 0 0 (!w.params.followText "set-order")) }).objs.size := by
          rw [Heap.size_push]; exact Nat.ne_of_lt (Nat.lt_succ_of_lt hlS)
        have hSf : s.heap.objs.size ∉ [(s.heap.push { cls := .type "set", dict := none, data := .set #[] 0 (.fresh 0 0 (!w.params.followText "set-order")) }).objs.size, l] := by
          rw [Heap.size_push]; simp only [List.mem_cons, List.mem_singleton, List.not_mem_nil, or_false, not_or]
          exact ⟨Nat.ne_of_lt (Nat.lt_succ_self _), Nat.ne_of_gt hlS⟩
        have hval : ∀ (i : Nat) (v : Value), items[i]? = some v → ∃ k t, ns[i]? = some k ∧ v = .int k t := fun i v hv => by
          have hi : i < ns.length := by rw [← hisz]; exact (Array.getElem?_eq_some_iff.mp hv).1
          obtain ⟨t, e⟩ := PyProof.Rows.IntsAre.int_at hit i v (by rw [Array.getElem?_toList]; exact hv)
          refine ⟨ns[i], t, List.getElem?_eq_getElem hi, ?_⟩
          rw [e, List.getD_eq_getElem?_getD, List.getElem?_eq_getElem hi] <;> rfl
        refine set_update_ints ((Walks.list hh3 _ l hneI items).toS) s.heap.objs.size
          hSf ns hisz hb hval (items.size - 0) 0 _ (by omega) (Nat.zero_le _)
          ⟨⟨_, Heap.get?_push_size _ rfl, rfl, rfl⟩, (hl1.push _)⟩ ?hS0 ?hR
        case hS0 =>
          have hget : ((s.heap.push { cls := .type "set", dict := none, data := .set #[] 0 (.fresh 0 0 (!w.params.followText "set-order")) }).push { cls := .type "list_iterator", data := .fields #[.ref l, .int 0 0] }).get? s.heap.objs.size
              = some { cls := .type "set", dict := none, data := .set #[] 0 (.fresh 0 0 (!w.params.followText "set-order")) } := Heap.get?_push_of_some _ hS
          exact ⟨0, Nat.le_refl 0, setR_new_at hget⟩
        case hR =>
          intro s' c' hm hc' hS'
          obtain ⟨h', g2, d', tk', os'⟩ := s'
          have eg : g2 = s.gens := hm.gens
          have ed : d' = s.drawn := hm.drawn
          have eo : os' = s.os := hm.os
          subst eg; subst ed; subst eo
          show wpAny _ _ _ _ _ _
          refine wpAny_pure ?_
          show wpAny _ _ (ret Value.none) _ _ _
          rw [hisz] at hc'
          refine wpAny_pure ⟨rfl, h', tk', c', rfl, hS', hc', fun b o e => ?_⟩
          have hb0 : b < s.heap.objs.size := Heap.lt_size e
          have hb1 : b ≠ s.heap.objs.size := Nat.ne_of_lt hb0
          have hb2 : b ≠ (s.heap.push { cls := .type "set", dict := none, data := .set #[] 0 (.fresh 0 0 (!w.params.followText "set-order")) }).objs.size := by
            rw [Heap.size_push]; exact Nat.ne_of_lt (Nat.lt_succ_of_lt hb0)
          exact hm.heap b o (by simp only [List.mem_cons, List.mem_singleton, List.not_mem_nil, or_false, not_or]; exact ⟨hb1, hb2⟩) (Heap.get?_push_of_some _ (Heap.get?_push_of_some _ e))

      · cases r₂ with
        | error e => exact hr₂
        | ok fl₂ =>
          cases fl₂ with
          | ret r =>
            obtain ⟨rfl, h', tk, c', rfl, hS', hc', hk'⟩ := hr₂
            repeat (any_goals (first | assumption | wp_step))
            exact h _ _ _ hS' hc' hk'
          | _ => exact hr₂.elim
    | _ => exact hr.elim

theorem sorted_setA {a : Addr} {S : Int → Bool} {n : Nat} {Q : Value → Shared → Prop} (R : SetR w s.heap a S n) (hh : A.handled = none) (hz : n ≤ sizeLine)
    (hQ : ∀ s' p (out : Array Value) (c : Nat) (ns : List Int), (∀ b o, s.heap.get? b = some o → s'.heap.get? b = some o) → s'.gens = s.gens → s'.os = s.os → s.heap.objs.size ≤ p →
      s'.heap.get? p = some (seqObj "list" out c) → IntsAre out.toList ns → ns.Pairwise (· < ·) → (∀ k, k ∈ ns ↔ S k = true) → ns.length = n → Q (.ref p) s') :
    wpAny (model P w) A (call (.builtin "sorted") [.ref a]) Q E s := by
  obtain ⟨o, es, ep, t, ho, hex, hd, g, nd, hm, hb, hf, hn, hr, hl⟩ := R
  refine Calls.call_function_entry kind_sorted plain_sorted entry_sorted (args_sorted1 _) ?_
  unfold Builtin.«sorted»
  refine wpAny_bind (m := checkCount "sorted" 1 1 _) (wpAny_pure ?_)
  refine wpAny_bind (collect_set (A := A.in1) hh ⟨o, ho, hex.1, hd⟩ hf hb hr hl fun s1 vs k1 hz1 g1 o1 pm => ?_)
  have hvl : vs.length = n := by rw [pm.length_eq, List.length_map, Array.length_toList]; exact hn
  have hI : IntsAre vs (vs.map Builtin.Re.reRawOf) := ints_of vs fun v hv => by
    obtain ⟨e, he, q⟩ := List.mem_map.mp (pm.mem_iff.mp hv)
    obtain ⟨k, tk, h1, _⟩ := g e he
    exact ⟨k, tk, by rw [← q]; exact h1⟩
  have pk : (vs.map Builtin.Re.reRawOf).Perm (es.toList.map keyOf) := by
    have q := pm.map Builtin.Re.reRawOf
    rw [List.map_map] at q
    exact q
  refine wpAny_bind (wpAny_newList ?_ (by rw [hvl]; exact hz))
  have hoL : (s1.heap.push (seqObj "list" vs.toArray 0)).get? s1.heap.objs.size = some (seqObj "list" vs.toArray 0) := Heap.get?_push_size _ rfl
  refine wpAny_bind (wpAny_holding (wpAny_call_entry slot_list_sort ⟨_, hoL, rfl⟩ entry_list_sort (SrtO.list_sort_ord SrtO.swo_int hoL (by rw [hvl]; exact hz) (fun h2 => SrtO.ints_sortable hI h2) fun out a1 a2 => ⟨_, rfl, ?_⟩) (args_list_sort _)))
  obtain ⟨b1, b2, b3⟩ := SrtO.ints_out hI a1 a2
  obtain ⟨c, hc⟩ := sortedHeap_at (vs := vs) (out := out.toArray) hoL
  have pn : (out.map SrtO.iv).Perm (es.toList.map keyOf) := b2.trans pk
  refine wpAny_pure ⟨_, rfl, hQ _ s1.heap.objs.size out.toArray c _ (fun b u e => ?_) g1 o1 hz1 hc b1 (lt_of_le_nodup _ b3 (pn.nodup_iff.mpr nd)) (fun k => by rw [pn.mem_iff, ← hm k]) ?_⟩
  · have q := k1 b u e
    have hlt := Heap.lt_size q
    show (sortedHeap (s1.heap.push (seqObj "list" vs.toArray 0)) s1.heap.objs.size vs out.toArray).get? b = some u
    rw [sortedHeap_old (Nat.ne_of_lt hlt) (by rw [size_push']; exact Nat.lt_succ_of_lt hlt)]
    exact Heap.get?_push_of_some _ q
  · rw [pn.length_eq, List.length_map, Array.length_toList]; exact hn
end
/-- set(xs), a list of ints -/
def rSetLI (K : PySem.W.Frag) (w : World) : List V → Hp → VK → Prop := fun xs H Q => ∃ (l : Addr) (ns : List Int), xs = [.ref l] ∧ SqL K H l (ns.map V.int) ∧ ns.length ≤ 4000 ∧
  ∀ p n, H p = none → n ≤ ns.length → Q (.ref p) (upd H p (SetO w p (fun j => decide (j ∈ ns)) n))
/-- sorted(s), a set of ints -/
def rSortSet (w : World) : List V → Hp → VK → Prop := fun vs H Q => ∃ (a : Addr) (S : Int → Bool) (n : Nat), vs = [V.ref a] ∧ H a = some (SetO w a S n) ∧ n ≤ sizeLine ∧
  ∀ (ns : List Int) (p : Addr), ns.Pairwise (· < ·) → (∀ k : Int, k ∈ ns ↔ S k = true) → ns.length = n → H p = none → Q (.ref p) (upd H p (.lst (ns.map V.int)))
section
variable {X : Cx}
theorem cr_setLI (hc : X.calm = true) : CallR X (.type "set") (rSetLI X.K X.w) := by
  intro pins s σ H xs us Q I r h
  obtain ⟨l, ns, rfl, hl, hb, q⟩ := h
  rw [Vals.ref1 r]
  obtain ⟨its, rv, pl, hz⟩ := I.list hl
  have hn : H s.heap.objs.size = none := I.hok.fresh (Nat.le_refl _)
  refine call_set_lstI (P := X.prog) (w := X.w) ns (I.ok.hd hc) (show s.heap.IsList l its.toArray from pl.isList) (ints_of_vals rv) (by unfold scanBound; omega) fun h' tk c R1 hcn k => ?_
  exact ⟨.ref s.heap.objs.size, upd H s.heap.objs.size (SetO X.w s.heap.objs.size (fun j => decide (j ∈ ns)) c), I.laid (t' := tk) k (Nat.le_refl _) (setO_new R1), rfl, q _ c hn hcn⟩
theorem cr_sortSet (hc : X.calm = true) : CallR X (.builtin "sorted") (rSortSet X.w) := by
  intro pins s σ H vs us Q I r h
  obtain ⟨a, S, n, rfl, ha, h64, q⟩ := h
  have R := setO_get I ha
  rw [Vals.ref1 r]
  refine sorted_setA R (I.ok.hd hc) h64 fun s' p out c ns k g o hp hg hi hs hm hl => ?_
  have hlen : (ns.map V.int).length ≤ sizeLine := by rw [List.length_map, hl]; exact h64
  have hn : H p = none := I.hok.fresh hp
  have J : Inv X pins σ (upd H p (.lst (ns.map V.int))) { s with heap := s'.heap, gens := s'.gens, drawn := s'.drawn, toks := s'.toks } :=
    I.call (ch := []) (Un.laid k hp hn) (I.hok.laid k hp ⟨hlen, out.toList, c, vals_of_ints hi, hg⟩) (by rw [g]; exact I.bare) (fun _ z => nomatch z)
  have e : s' = { s with heap := s'.heap, gens := s'.gens, drawn := s'.drawn, toks := s'.toks } := by
    cases s'
    cases s
    cases o
    rfl
  rw [e]
  exact ⟨.ref p, _, J, rfl, q ns p hs hm hl hn⟩
end
/-- t == (), any tuple -/
def rEqT (K : PySem.W.Frag) : R2 := fun x y H Q => rEqG K x y H Q ∨ ∃ a b xs, x = .ref a ∧ y = .ref b ∧ SqT K H a xs ∧ SqT K H b [] ∧ Q (.bl xs.isEmpty) H
theorem op_eqT {X : Cx} (hu : X.A.units + 200 < cLine) : OpR X (compareOp .Eq) (rEqT X.K) := (op_eqG hu).or (by
  intro pins s σ H x y v u Q I rx ry ⟨a, b, xs, e1, e2, ha, hb, q⟩
  subst e1
  subst e2
  cases (show v = Value.ref a from rx)
  cases (show u = Value.ref b from ry)
  obtain ⟨us, r1, p1, _⟩ := I.tuple ha
  obtain ⟨ws, r2, p2, _⟩ := I.tuple hb
  cases r2
  have e : ((List.range (min us.toArray.size ([] : List Value).toArray.size)).all (fun _ => true) && us.toArray.size == ([] : List Value).toArray.size) = xs.isEmpty := by
    have := r1.length
    cases xs with
    | nil => cases r1; rfl
    | cons x xs => cases r1; simp
  have R := SeqAt.RcAt.tuples (A := X.A) (e := fun _ => true) p1 p2 (by omega) (fun j h1 h2 => absurd h2 (by simp))
  rw [e] at R
  exact R X.prog X.w X.xe _ ⟨.bl xs.isEmpty, H, I, rfl, q⟩)
theorem g_eqT {K : PySem.W.Frag} {H : Hp} {Q : VK} {a b : Addr} {xs : List V} (h : H a = some (.tup xs)) (hb : H b = some (.tup [])) (q : Q (.bl xs.isEmpty) H) : rEqT K (.ref a) (.ref b) H Q := .inr ⟨a, b, xs, rfl, rfl, .of h, .of hb, q⟩

/-! ### t[::-1] of a tuple -/
section
open HT
variable {prog : Program} {w : World} {A : Around} {s : Shared} {E : Value → Shared → Prop}
theorem adjust_rev (n : Nat) : Builtin.Slice.sliceAdjust none none (-1) (n : Int) = ((n : Int) - 1, -1) := rfl
theorem places_rev (n : Nat) : Builtin.Slice.slicePlaces ((n : Int) - 1) (-1) (-1) = n := by
  unfold Builtin.Slice.slicePlaces
  rw [if_neg (by omega)]
  by_cases h : (n : Int) - 1 > -1
  · rw [if_pos h, show (- (-1) : Int) = 1 from rfl, Int.ediv_one]; omega
  · rw [if_neg h]; omega
theorem sliceApplied_rev {sl : Addr} {vl vu vs : Value} {n : Nat} {Q : Int × Int × Nat → Shared → Prop} (hs : s.heap.IsSliceOf sl vl vu vs) (pl : IsPart vl none) (pu : IsPart vu none) (ps : IsPart vs (some (-1)))
    (h : Q ((n : Int) - 1, -1, n) s) : wpAny (model prog w) A (Builtin.Slice.sliceApplied (.ref sl) (pure (n : Int))) Q E s := by
  obtain ⟨os, hos, hcs, hds⟩ := id hs
  unfold Builtin.Slice.sliceApplied Builtin.Slice.sliceFields
  refine wpAny_bind (wpAny_bind (wpAny_field hos hds (x := vl) rfl (wpAny_bind (wpAny_field hos hds (x := vu) rfl (wpAny_bind (wpAny_field hos hds (x := vs) rfl (wpAny_pure ?_)))))))
  refine wpAny_bind (slicePart_ ps ?_)
  show wpAny _ _ (if (((-1) : Int) == 0) = true then _ else _) _ _ s
  rw [if_neg (by decide)]
  refine wpAny_bind (slicePart_ pl (wpAny_bind (slicePart_ pu (wpAny_bind (wpAny_pure ?_)))))
  show wpAny _ _ (match Builtin.Slice.sliceAdjust none none (-1) (n : Int) with | (lo, hi) => pure (lo, (-1 : Int), Builtin.Slice.slicePlaces lo hi (-1))) _ _ s
  rw [adjust_rev n]
  show wpAny _ _ (pure ((n : Int) - 1, (-1 : Int), Builtin.Slice.slicePlaces ((n : Int) - 1) (-1) (-1))) _ _ s
  rw [places_rev]
  exact wpAny_pure h
theorem fm_congr {α β : Type} {f g : α → Option β} : ∀ {l : List α}, (∀ m ∈ l, f m = g m) → l.filterMap f = l.filterMap g
  | [], _ => rfl
  | a :: l, h => by rw [List.filterMap_cons, List.filterMap_cons, h a List.mem_cons_self, fm_congr fun m hm => h m (List.mem_cons_of_mem _ hm)]
theorem pick_rev (xs : Array Value) : ((List.range xs.size).filterMap fun (m : Nat) => xs[((xs.size : Int) - 1 + (m : Int) * (-1)).toNat]?).toArray = xs.toList.reverse.toArray := by
  congr 1
  have e : ∀ m ∈ List.range xs.size, xs[((xs.size : Int) - 1 + (m : Int) * (-1)).toNat]? = xs.toList.reverse[m]? := by
    intro m hm
    rw [List.mem_range] at hm
    rw [List.getElem?_reverse (by rw [Array.length_toList]; exact hm), Array.length_toList, Array.getElem?_toList]
    congr 1
    omega
  rw [fm_congr e]
  have h2 : ∀ l : List Value, (List.range l.length).filterMap (l[·]?) = l := fun l => by
    have := PySem.W.krv_all l.toArray
    simpa using this
  have h3 := h2 xs.toList.reverse
  rw [List.length_reverse, Array.length_toList] at h3
  exact h3
theorem getItem_tuple_rev {t sl : Addr} {items : Array Value} {vl vu vs : Value} {Q : Value → Shared → Prop} (ht : IsTup s.heap t items) (hs : s.heap.IsSliceOf sl vl vu vs) (pl : IsPart vl none) (pu : IsPart vu none) (ps : IsPart vs (some (-1)))
    (h : Q (.ref s.heap.objs.size) { s with heap := s.heap.push { cls := .type "tuple", data := .seq items.toList.reverse.toArray } })
    (hsz : items.size ≤ sizeLine) : wpAny (model prog w) A (getItem (.ref t) (.ref sl)) Q E s := by
  have htake : sizeOk (.seq items.toList.reverse.toArray) := by
    show items.toList.reverse.toArray.size ≤ sizeLine
    rw [List.size_toArray, List.length_reverse, Array.length_toList]
    omega
  obtain ⟨os, hos, hcs, hds⟩ := id hs
  have hTs : s.TypeIs (.ref sl) "slice" := ⟨os, hos, hcs⟩
  unfold getItem
  try with_reducible refine wpAny_holding ?_
  first | refine wpAny_bind (wpAny_pure ?_) | skip
  refine wpAny_bind (wpAny_sequenceKey ht.typeIs (by decide) ?_)
  refine wpAny_bind (wpAny_callSpecial?_slot (name := Str.ofString "__getitem__") ht.typeIs PyProof.Rows.slot_tuple_getitem
    (wpAny_call_entry PyProof.Rows.slot_tuple_getitem ht.typeIs entry_tuple_getitem ?_ (args_tuple_getitem _ _)))
  show wpAny _ _ (Builtin.Tuple.tupleItemsOf (.ref t) >>= _) _ _ s
  refine wpAny_bind (tupleItemsOf_ ht ?_)
  refine wpAny_bind (wpAny_typeOf hTs ?_)
  rw [if_pos (by decide)]
  refine wpAny_bind (sliceApplied_rev hs pl pu ps ?_)
  have hno : ¬ ((((items.size : Int) - 1) == 0 && (-1 : Int) == 1 && items.size == items.size) = true) := by
    intro q
    rw [Bool.and_eq_true, Bool.and_eq_true] at q
    exact absurd q.1.2 (by decide)
  show wpAny _ _ (if (((items.size : Int) - 1) == 0 && (-1 : Int) == 1 && items.size == items.size) = true then _ else _) _ _ s
  rw [if_neg hno, pick_rev]
  first
    | exact wpAny_bind (m := Builtin.Tuple.tupleExact _) (wpAny_newObj_type (wpAny_pure ⟨_, rfl, wpAny_pure h⟩) htake)
    | exact wpAny_bind (m := Builtin.Tuple.tupleExact _) (wpAny_newObj_type (wpAny_bind (wpAny_pure (wpAny_pure ⟨_, rfl, wpAny_pure h⟩))) htake)
    | exact wpAny_bind (wpAny_bind (m := Builtin.Tuple.tupleExact _) (wpAny_newObj_type (wpAny_pure (wpAny_pure ⟨_, rfl, wpAny_pure h⟩)) htake))
    | exact wpAny_bind (wpAny_bind (m := Builtin.Tuple.tupleExact _) (wpAny_newObj_type (wpAny_pure ⟨_, rfl, wpAny_pure h⟩) htake))
end
section
variable {X : Cx}
def tRevT (K : PySem.W.Frag) (te : TE) : TE := fun σ H Q => te σ H fun x H1 => ∃ a xs, x = .ref a ∧ SqT K H1 a xs ∧ New H1 (.tup xs.reverse) fun p H' => Q (.ref p) H'
theorem pe_revT {e : Expr} {te : TE} {k : Nat} {p1 p2 p3 pos : Pos} (he0 : PE X e te) : PE X (.Subscript e (.Slice none none (some (.UnaryOp .USub (.Constant (.int 1) k p1) p2)) p3) pos) (tRevT X.K te) := by
  have he := pe_cl he0
  refine ⟨fun pins s σ H Q I h => ?_⟩
  refine Subscript_ (thn (he.run pins s σ H _ I ⟨_, h, fun _ _ z => z⟩) fun v s1 ⟨x, H1, I1, r1, q1⟩ => ?_)
  obtain ⟨a, xs, ex, hx, q⟩ := q1
  subst ex
  cases r1
  have hst : PO X (some (.UnaryOp .USub (.Constant (.int 1) k p1) p2)) (tPart (tUn (rU fun i => .int (-i)) (tC (.int 1)))) := po_some (pe_un un_neg pe_int)
  refine wpAny_Slice (thn (po_none.run pins s1 σ H1 (fun o H2 => o = none ∧ H2 = H1) I1 ⟨rfl, rfl⟩) fun vl s2 ⟨l, H2, I2, pl, el, e2⟩ => ?_)
  subst el e2
  refine thn (po_none.run pins s2 σ H2 (fun o H3 => o = none ∧ H3 = H2) I2 ⟨rfl, rfl⟩) fun vu s3 ⟨u, H3, I3, pu, eu, e3⟩ => ?_
  subst eu e3
  refine thn (hst.run pins s3 σ H3 (fun o H4 => o = some (-1) ∧ H4 = H3) I3 ⟨1, rfl, -1, rfl, rfl, rfl⟩) fun vs s4 ⟨o, H4, I4, ps, eo, e4⟩ => ?_
  subst eo e4
  have I5 : Inv X pins σ H4 { s4 with heap := s4.heap.push { cls := .type "slice", data := .fields #[vl, vu, vs] } } := I4.kept (t' := s4.toks) fun b ob q => Heap.get?_push_of_some _ q
  obtain ⟨its, r, ht, hz⟩ := I5.tuple hx
  have hlen := r.length
  show wpAny (model X.prog X.w) X.A (subscriptTail e (.Slice none none (some (.UnaryOp .USub (.Constant (.int 1) k p1) p2)) p3) (.ref a) (.ref s4.heap.objs.size)) (EP X pins σ Q) X.xe { s4 with heap := s4.heap.push { cls := .type "slice", data := .fields #[vl, vu, vs] } }
  refine tail_any (ops := [.ref a, .ref s4.heap.objs.size]) ht.typeIs (PyProof.Rows.slot_tuple_getitem.lookup) ?_ (by with_unfolding_all rfl)
  refine getItem_tuple_rev ht (Heap.IsSliceOf.new _ vl vu vs) pl pu ps ?_ (by rw [List.size_toArray]; omega)
  refine ⟨.ref _, _, I5.laid (t' := s4.toks) (o := .tup xs.reverse) (fun b ob q => Heap.get?_push_of_some _ q) (Nat.le_refl _) ?_, rfl, q.at _ (I5.hok.fresh (Nat.le_refl _))⟩
  exact ⟨by rw [List.length_reverse]; exact hz, _, r.reverse, IsTup.new _ _⟩
/-- a truth and a number are added -/
def rAddB (K : PySem.W.Frag) : R2 := fun x y H Q => rAddG K x y H Q ∨ ∃ b j, x = .bl b ∧ y = .int j ∧ Q (.int ((if b = true then (1 : Int) else 0) + j)) H
theorem g_revT {K : PySem.W.Frag} {te : TE} {σ : L2.St} {H : Hp} {Q : VK} (h : te σ H fun x H1 => ∃ a xs, x = .ref a ∧ SqT K H1 a xs ∧ New H1 (.tup xs.reverse) fun p H' => Q (.ref p) H') : tRevT K te σ H Q := h
end

/-! ### defs that want to know that no repr is under way; repr of data -/
/-- what a def does, asked within A -/
def Runs (P : Program) (w : World) (K : PySem.W.Frag) (mg : Str → Option Value) (base : Heap) (CX : CXT) (k : Nat) (f : Addr) (fd : FuncData) (ps : List Str) (sp : Sp) (A : Around) : Prop :=
  ∀ (outer : List Env) (s : Shared) (H : Hp) (args : Args) (us : List Value) (vs : List V) (Q : VK) (E : XK), Room k A → Env0 P w K mg base A outer s H → BindsTo s fd args (ps.zip us) → Vals vs us → sp vs H Q E →
    codeAny (model P w) A (.call (.ref f) args) (CR CX outer P w H s Q E) s
/-- a def's promise where no repr is under way -/
structure FnOkG (P : Program) (w : World) (K : PySem.W.Frag) (mg : Str → Option Value) (base : Heap) (CX : CXT) (k : Nat) (f : Addr) (fd : FuncData) (ps : List Str) (sp : Sp) : Prop where
  long : ∀ vs H Q E, sp vs H Q E → vs.length = ps.length
  does : ∀ A : Around, A.guards = some [] → Runs P w K mg base CX k f fd ps sp A
section
variable {P : Program} {w : World} {K : PySem.W.Frag} {mg : Str → Option Value} {base : Heap} {CX : CXT} {j k : Nat} {f : Addr} {fd : FuncData} {ps N : List Str} {sp : Sp}
theorem FnOkG.mono (F : FnOkG P w K mg base CX j f fd ps sp) (h : j ≤ k) : FnOkG P w K mg base CX k f fd ps sp :=
  ⟨F.long, fun A g outer s H args us vs Q E room => F.does A g outer s H args us vs Q E (room.mono h)⟩
theorem ends_at {X : Cx} {outer : List Env} {s0 : Shared} {H0 : Hp} {Q : VK} (e1 : X.s_0 = s0) (e2 : X.H_0 = H0) (e3 : X.fs = frs outer) (e4 : X.ex = []) (e5 : X.prog = P) (e6 : X.w = w) {fl : Flow} {s' : Shared} (h : SP X [] { nx := fun _ H' => Q .non H', rt := Q } fl s') :
    match fl with
    | .ret u => CE outer P w H0 s0 Q u s'
    | .next => CE outer P w H0 s0 Q Value.none s'
    | _ => False := by
  subst e1 e2 e5 e6
  cases fl with
  | next =>
    obtain ⟨_, H', J, q⟩ := h
    have b := J.base
    rw [e3, e4] at b
    exact ⟨V.non, H', J.os, J.bare, b, J.hok, rfl, q⟩
  | ret u =>
    obtain ⟨v, _, H', J, rv, q⟩ := h
    have b := J.base
    rw [e3, e4] at b
    exact ⟨v, H', J.os, J.bare, b, J.hok, rv, q⟩
  | brk => exact h.choose_spec.choose_spec.2
  | cont => exact h.choose_spec.choose_spec.2
theorem runs_of {A : Around} {name qual : Str} {params : Arguments} {body : List Stmt} {scope : Scope} {dV kV doc pm cdv ct oc : Value} {an od : Option Addr} {osl : Array (Option Value)}
    (at_ : K.lookup f = some ⟨oc, od, .func (PySem.W.fnOf name qual params body scope dV kV doc pm an cdv ct), osl⟩) (code : PySem.W.codeIn K cdv qual = true) (S : FnScope N ps scope) (long : ∀ vs H Q E, sp vs H Q E → vs.length = ps.length)
    (walk : ∀ (outer : List Env) (s : Shared) (H : Hp) (vs : List V) (Q : VK) (E : XK), Room k (A.deeper (envOfC qual scope s.heap.objs.size f cdv)) → sp vs H Q E →
      ∃ t, PSs (cxOf CX P w K mg base N qual scope f cdv A outer s H E) body t ∧ t { nx := fun _ H' => Q .non H', rt := Q } (start N vs) H) :
    Runs P w K mg base CX (k + 1) f (PySem.W.fnOf name qual params body scope dV kV doc pm an cdv ct) ps sp A := by
  intro outer s H args us vs Q E room env binds rel want
  have stays : ∀ b o, base.get? b = some o → s.heap.get? b = some o := fun b o e => (env.bs b o e).1
  have inK := env.mod.kin.keeps stays
  have many := long _ _ _ _ want
  have slots : ∀ y ∈ ps.zip us, scope.names.lookup y.1 = some .local ∨ (scope.names.lookup y.1 = some .cell ∧ ((cellsFrom (s.heap.objs.size + 1) scope.names []).lookup y.1).isSome = true) := by
    rintro ⟨n, v⟩ hy
    exact (S.par n (List.of_mem_zip hy).1).imp id fun q => ⟨q, PySem.W.cellsFrom_some _ _ _ (.inl q)⟩
  apply codeAny_call_function room.depth (inK _ _ at_) rfl S.co S.gen rfl (PySem.W.codeRec_of inK code)
  apply binds
  apply wpAny_newFunctionEnv_cells S.kind slots
  rintro _ rfl s1 made
  obtain ⟨t, walked, holds⟩ := walk outer s H vs Q E (room.deeper _) want
  refine ⟨(env.mod.nolimit.keeps stays).keeps made.toInCall.keep, codeAny_func (wpAny_mono (walked.run [] s1 _ H _ (inv_start S room.hd env many rel made) holds) (fun fl s' h => ?_) fun _ _ h => h)⟩
  have e := ends_at (outer := outer) rfl rfl rfl rfl rfl rfl h
  cases fl with
  | next => exact e
  | ret u => exact e
  | brk => exact False.elim e
  | cont => exact False.elim e
theorem okG {x qual : Str} {params : Arguments} {body : List Stmt} {scope : Scope} {dvs : List V} {kws : List (Str × V)} (F : FunD K x qual params body scope dvs kws f fd) (S : FnScope N ps scope) (long : ∀ vs H Q E, sp vs H Q E → vs.length = ps.length)
    (walk : ∀ (cdv : Value) (A : Around) (outer : List Env) (s : Shared) (H : Hp) (vs : List V) (Q : VK) (E : XK), Room k (A.deeper (envOfC qual scope s.heap.objs.size f cdv)) → A.guards = some [] → sp vs H Q E →
      ∃ t, PSs (cxOf CX P w K mg base N qual scope f cdv A outer s H E) body t ∧ t { nx := fun _ H' => Q .non H', rt := Q } (start N vs) H) : FnOkG P w K mg base CX (k + 1) f fd ps sp := by
  obtain ⟨_, _, _, _, _, _, _, cdv, _, _, rfl, at_, code, _⟩ := F.ex
  exact ⟨long, fun A g => runs_of at_ code S long fun outer s H vs Q E room want => walk cdv A outer s H vs Q E room g want⟩
end
structure CalG (P : Program) (w : World) (K : PySem.W.Frag) (mg : Str → Option Value) (base : Heap) (k : Nat) (x : Str) (sp : Sp) : Prop where
  ex : ∃ (f : Addr) (fd : FuncData) (ps : List Str), FnOkG P w K mg base CX0 k f fd ps sp ∧ mg x = some (.ref f) ∧ PySem.W.keepIn K (.ref f) = true ∧ Binds K fd ps []
theorem CalG.mono {P : Program} {w : World} {K : PySem.W.Frag} {mg : Str → Option Value} {base : Heap} {i k : Nat} {x : Str} {sp : Sp} (c : CalG P w K mg base i x sp) (h : i ≤ k) : CalG P w K mg base k x sp := by
  obtain ⟨f, fd, ps, F, a, b, d⟩ := c.ex
  exact ⟨f, fd, ps, F.mono h, a, b, d⟩
theorem calG_mk {P : Program} {w : World} {K : PySem.W.Frag} {mg : Str → Option Value} {base : Heap} {x : Str} {params : Arguments} {body : List Stmt} {scope : Scope} {f : Addr} {fd : FuncData} {N ps : List Str} {k : Nat} {sp : Sp} (F : FunD K x x params body scope [] [] f fd) (hm : mg x = some (.ref f)) (S : FnScope N ps scope)
    (b : Binds K fd ps []) (len : ∀ vs H Q E, sp vs H Q E → vs.length = ps.length)
    (hbody : ∀ (cdv : Value) (A : Around) (outer : List Env) (s : Shared) (H : Hp) (vs : List V) (Q : VK) (E : XK), Room k (A.deeper (envOfC x scope s.heap.objs.size f cdv)) → A.guards = some [] → sp vs H Q E →
      ∃ t, PSs (cxOf CX0 P w K mg base N x scope f cdv A outer s H E) body t ∧ t { nx := fun _ H' => Q .non H', rt := Q } (start N vs) H) : CalG P w K mg base (k + 1) x sp :=
  ⟨f, fd, ps, okG F S len hbody, hm, F.kp, b⟩
section
variable {X : Cx} {k : Nat} {x : Str} {sp : Sp} {p pos : Pos} {e : Expr} {es : List Expr} {t : TA}
theorem pe_calG (c : CalG X.prog X.w X.K X.mg X.base k x sp) (hr : Room k X.A) (hgd : X.A.guards = some []) (hg : Gl X x) (ha : PA X (e :: es) t)
    (hdb : (x == ("__debug__" : Str)) = false := by decide) (he : starEach (e :: es) X.env = (false, eval e X.env) :: starEach es X.env := by rfl) (hpl : (backTo pos (starEach es X.env)).any (·.1) = false := by rfl) :
    PE X (.Call (.Name x p) (e :: es) [] pos) (tCall sp [] E0 t) := by
  obtain ⟨f, fd, ps, F, at_, kept, binds⟩ := c.ex
  constructor
  intro pins s σ H Q I h
  apply wpAny_Call_Name_kw
  refine ld_glob I hg at_ (PySem.W.callWith_K (h₀ := X.base) I.ok.mod.kin kept ?_ he hpl) hdb
  refine thn (ha.run pos pins s σ H _ I h) fun us s1 got => ?_
  obtain ⟨vs, H1, J, rel, want⟩ := got
  replace want : sp vs H1 Q E0 := List.append_nil vs ▸ want
  have many : us.length = ps.length := rel.length.symm.trans (F.long _ _ _ _ want)
  have bd := binds s1 us J.kIn (by rw [List.append_nil]; exact many)
  rw [List.append_nil] at bd
  refine ⟨J.kIn, wpAny_call (codeAny_mono (F.does X.A hgd X.stack s1 H1 ⟨us, []⟩ us vs Q E0 hr J.env0 bd rel want) fun r s' got => ?_)⟩
  match r, got with
  | .error e, got => exact pass0 pins σ H1 s1 e s' J got
  | .ok (.ret u), got => exact J.after got
  | .ok .next, got => exact got.elim
  | .ok .brk, got => exact got.elim
  | .ok .cont, got => exact got.elim
/-- repr of data -/
def rRepr (K : PySem.W.Frag) : List V → Hp → VK → Prop := fun xs H Q => ∃ v d, xs = [v] ∧ Dp K H v d ∧ d.showable = true ∧ d.hasDict = false ∧ d.depth ≤ 90 ∧ d.shown.length ≤ sizeLine ∧ Q (.str d.shown) H
theorem cr_repr (hgd : X.A.guards = some []) (hu : X.A.units + 200 < cLine) : CallR X (.builtin "repr") (rRepr X.K) := by
  intro pins s σ H xs us Q I r h
  obtain ⟨v, d, rfl, hd, hs, hn, hdp, hz, q⟩ := h
  obtain ⟨u, rfl, ru⟩ := vals1 r
  obtain ⟨as, rd⟩ := Dp.reads I d v u hd ru
  have gen : ∀ {a : Addr}, u = .ref a → wpAny (model X.prog X.w) X.A (call (.builtin "repr") [u]) (EP X pins σ Q) X.xe s := by
    rintro a rfl
    refine repr_of_reads' rd hs (fun h' => by rw [hn] at h'; cases h') hgd (by omega) (fun _ _ e => e) (fun h' u tk hk => ?_) hz
    exact ⟨.str d.shown, H, I.kept (t' := tk) hk, ⟨_, rfl⟩, q⟩
  cases hd with
  | non =>
    obtain rfl : u = Value.none := ru
    exact PySem.P.repr_of_none ⟨.str _, H, I.tok _, ⟨_, rfl⟩, by simpa only [PyData.shown] using q⟩
  | bl b =>
    obtain rfl : u = Value.bool b := ru
    exact PySem.P.repr_of_bool ⟨.str _, H, I.tok _, ⟨_, rfl⟩, by simpa only [PyData.shown] using q⟩
  | int i =>
    obtain ⟨t, rfl⟩ := ru
    exact PySem.P.repr_of_int (by simpa [PyData.showable] using hs) ⟨.str _, H, I.tok _, ⟨_, rfl⟩, by simpa only [PyData.shown] using q⟩
  | str x =>
    obtain ⟨t, rfl⟩ := ru
    exact PySem.P.repr_of_str ⟨.str _, H, I.tok _, ⟨_, rfl⟩, by simpa only [PyData.shown] using q⟩ (by simpa only [PyData.shown] using hz)
  | lst _ _ => exact gen ru
  | tup _ _ => exact gen ru
/-- list.pop(i) -/
def rPopA : V → List V → Hp → VK → Prop := fun x vs H Q => ∃ l v xs, x = .ref l ∧ vs = [.int 0] ∧ H l = some (.lst (v :: xs)) ∧ Put H l (.lst xs) fun H' => Q v H'
theorem g_repr {K : PySem.W.Frag} {H : Hp} {v : V} {d : PyData} {Q : VK} (h : Dp K H v d) (h1 : d.showable = true) (h2 : d.hasDict = false) (h3 : d.depth ≤ 90) (h4 : d.shown.length ≤ sizeLine) (q : Q (.str d.shown) H) : rRepr K [v] H Q := ⟨v, d, rfl, h, h1, h2, h3, h4, q⟩
end
/-! ### a law's end -/
/-- all that is tracked at first: the script at a, where the module has it not -/
def onlyAt (K : PySem.W.Frag) (a : Addr) (o : Obj) (xs : List V) : Hp := fun b => if b = a ∧ K.lookup a = none then some (.frz o (.lst xs)) else none
section
variable {P : Program} {w : World} {K : PySem.W.Frag} {h : Heap} {a b : Addr} {o : Obj} {xs : List V} {vs : List Value}
theorem onlyAt_some {u : HO} (e : onlyAt K a o xs b = some u) : b = a ∧ K.lookup a = none ∧ u = .frz o (.lst xs) := by
  unfold onlyAt at e
  split at e
  · rename_i c
    cases e
    exact ⟨c.1, c.2, rfl⟩
  · cases e
theorem onlyAt_none (e : b ≠ a) : onlyAt K a o xs b = none := if_neg fun c => e c.1
theorem onlyAt_only : Only (onlyAt K a o xs) := fun b => by
  cases e : onlyAt K a o xs b with
  | none => exact .inl rfl
  | some u => exact .inr ⟨o, xs, by rw [(onlyAt_some e).2.2]⟩
theorem onlyAt_sq (inK : K.In h) (at_ : h.get? a = some { cls := .type "list", data := .seq vs.toArray }) (rel : Vals xs vs) (few : xs.length ≤ sizeLine) : SqL K (onlyAt K a { cls := .type "list", data := .seq vs.toArray } xs) a xs := by
  cases e : K.lookup a with
  | none => exact .inl (.inr ⟨_, if_pos ⟨rfl, e⟩⟩)
  | some ob =>
    have e' := inK a ob e
    rw [at_] at e'
    obtain rfl := Option.some.inj e'
    exact .inr ⟨_, vs.toArray, _, e, rfl, rfl, rfl, by rw [List.size_toArray, ← rel.length]; exact few, by simpa using rel⟩
theorem onlyAt_ok (at_ : h.get? a = some { cls := .type "list", data := .seq vs.toArray }) (rel : Vals xs vs) (few : xs.length ≤ sizeLine) : HOk P w (onlyAt K a { cls := .type "list", data := .seq vs.toArray } xs) h := by
  intro b u e
  obtain ⟨rfl, _, rfl⟩ := onlyAt_some e
  exact ⟨at_, few, vs, _, rel, at_⟩
/-- what is not the script is not tracked -/
theorem onlyAt_hid (at_ : h.get? a = some { cls := .type "list", data := .seq vs.toArray }) {ob : Obj} (e : h.get? b = some ob) (d : ∀ q n, ob.data ≠ .seq q n) : (hidT h (onlyAt K a { cls := .type "list", data := .seq vs.toArray } xs)).get? b = some ob := by
  refine hidT_get e (onlyAt_none fun z => ?_)
  subst z
  rw [at_] at e
  obtain rfl := Option.some.inj e
  exact d _ _ rfl
theorem onlyAt_ns (at_ : h.get? a = some { cls := .type "list", data := .seq vs.toArray }) {m : Str → Option Value} (n : h.Ns b m) : (hidT h (onlyAt K a { cls := .type "list", data := .seq vs.toArray } xs)).Ns b m := by
  obtain ⟨ob, es, ep, e, d, r⟩ := n
  exact ⟨ob, es, ep, onlyAt_hid at_ e (fun q n z => by rw [d] at z; cases z), d, r⟩
theorem onlyAt_in (inK : K.In h) : K.In (hidT h (onlyAt K a o xs)) := fun b ob e => hidT_get (inK b ob e) (by
  cases q : onlyAt K a o xs b with
  | none => rfl
  | some u =>
    obtain ⟨rfl, n, _⟩ := onlyAt_some q
    rw [n] at e
    cases e)
/-- behind the law all old objects stand as they were -/
theorem onlyAt_old {s0 s' : Shared} {H' : Hp} (ok : HOk P w (onlyAt K a o xs) s0.heap) (ok' : HOk P w H' s'.heap) (un : Un [] [] (onlyAt K a o xs) H' s0.heap s'.heap) : OldK s0.heap s'.heap := by
  refine OldK.of_keep fun b ob e => ?_
  cases q : onlyAt K a o xs b with
  | none => exact un.keep b ob e q List.not_mem_nil List.not_mem_nil
  | some u =>
    have hu := (onlyAt_some q).2.2
    subst hu
    have now := (ok' b _ (un.frzs b _ _ q)).1
    have then_ := (ok b _ q).1
    rw [e] at then_
    rw [now, ← Option.some.inj then_]
end
theorem law_callG {P : Program} {w : World} {K : PySem.W.Frag} {mg mb : Str → Option Value} {k : Nat} {fa a : Addr} {fd : FuncData} {x : Str} {sp : Sp} {s₁ : Shared} {vs : List Value} {ns : List Int}
    (inK : K.In s₁.heap) (nsG : s₁.heap.Ns mainGlobals mg) (nsB : s₁.heap.Ns builtinsNs mb) (boot : ∀ x : Str, x ≠ "__name__" → mb x = bootBuiltins x) (free : s₁.heap.NoLimit) (noGens : s₁.gens = #[])
    (at_ : s₁.heap.get? a = some { cls := .type "list", data := .seq vs.toArray }) (whole : IntsAre vs ns) (few : ns.length ≤ sizeLine) (room : Room k callerA)
    (F : ∀ base : Heap, K.In base → base.Ns mainGlobals mg → FnOkG P w K mg base CX0 k fa fd [x] sp) (binds : ∀ (s : Shared) (u : Value), BindsTo s fd ⟨[u], []⟩ [(x, u)])
    (want : ∀ H : Hp, Only H → SqL K H a (ns.map V.int) → sp [.ref a] H (fun v _ => v = .bl true) fun _ _ _ => False) :
    codeAny (model P w) callerA (.call (.ref fa) ⟨[.ref a], []⟩) (fun r s' => r = .ok (.ret (.bool true)) ∧ OldK s₁.heap s'.heap ∧ s'.os = s₁.os ∧ AllBare s'.gens) s₁ := by
  have rel := vals_ints whole
  have few' : (ns.map V.int).length ≤ sizeLine := by rw [List.length_map]; exact few
  have ok : HOk P w (onlyAt K a { cls := .type "list", data := .seq vs.toArray } (ns.map V.int)) s₁.heap := onlyAt_ok at_ rel few'
  have inB : K.In (hidT s₁.heap (onlyAt K a { cls := .type "list", data := .seq vs.toArray } (ns.map V.int))) := onlyAt_in inK
  have modB : Mod K mg (hidT s₁.heap (onlyAt K a { cls := .type "list", data := .seq vs.toArray } (ns.map V.int))) :=
    ⟨inB, onlyAt_ns at_ nsG, ⟨mb, onlyAt_ns at_ nsB, boot⟩, by obtain ⟨mc, h1, h2⟩ := free; exact ⟨mc, onlyAt_ns at_ h1, h2⟩⟩
  refine codeAny_mono ((F _ inB (onlyAt_ns at_ nsG)).does callerA rfl [] s₁ _ ⟨[.ref a], []⟩ [.ref a] [.ref a] _ _ room
    ⟨rfl, modB, fun b o e => of_hidT e, Nat.le_of_eq (hidT_size _ _), trivial, fun b hb => (List.not_mem_nil hb).elim, ok, .of_eq noGens⟩ (binds s₁ (.ref a)) (.cons rfl .nil) (want _ onlyAt_only (onlyAt_sq inK at_ rel few'))) fun r s' got => ?_
  match r, got with
  | .error e, got => exact (show False from got).elim
  | .ok .next, got => exact got.elim
  | .ok .brk, got => exact got.elim
  | .ok .cont, got => exact got.elim
  | .ok (.ret u), got =>
    obtain ⟨v, H', os, bare, un, ok', rv, q⟩ := got
    replace q : v = .bl true := q
    subst q
    obtain rfl : u = Value.bool true := rv
    exact ⟨rfl, onlyAt_old ok ok' un, os, bare⟩
/-- a law's end -/
theorem walk_ofG {l : PySem.W.OpenLaw} {n k : Nat} {q : Program} {loose : List Str} {XP : (Str → Option Value) → Heap → Prop} {YP : World → Heap → Prop} {d : DefRec} {x : Str}
    (most : l.most = some n) (few : n ≤ sizeLine) (plain : d.params.defaults = []) (room : Room k callerA)
    (F : ∀ (w : World) (mg : Str → Option Value) (fa : Addr) (h : Heap), YP w h → h.Ns mainGlobals mg → mg d.name = some (.ref fa) →
      ∃ (K : PySem.W.Frag) (fd : FuncData) (sp : Sp), K.In h ∧ (∀ (s : Shared) (u : Value), BindsTo s fd ⟨[u], []⟩ [(x, u)]) ∧
        (∀ (H : Hp) (a : Addr) (ns : List Int), ns.length ≤ n → Only H → SqL K H a (ns.map V.int) → sp [.ref a] H (fun v _ => v = .bl true) fun _ _ _ => False) ∧
        ∀ base : Heap, K.In base → base.Ns mainGlobals mg → FnOkG l.prog w K mg base CX0 k fa fd [x] sp) :
    PySem.W.WalkO q loose XP YP l.row.toRowW d [] (fun f vs => PySem.call f vs) := by
  apply Att.attach_call most plain
  intro w s₀ s₁ mg mb fa o pm cd doc a vs ns G Y _ _ _ hmg at_ whole len gens
  obtain ⟨K, fd, sp, inK, binds, want, does⟩ := F w mg fa _ Y G.T.g hmg
  exact law_callG inK G.T.g G.T.b G.T.builtins G.T.nolimit gens at_ whole (Nat.le_trans len few) room does binds fun H hO hS => want H a ns len hO hS

/-! ### dicts with int keys: sorted(d), d.setdefault(k, x); set(t) of a tuple of ints; (d, l) != (e, m) -/
section
variable {X : Cx}
/-- sorted(s) of a set of ints, sorted(d) of a dict with fewer than 64 int keys -/
def rSortG (w : World) : List V → Hp → VK → Prop := fun vs H Q => rSortSet w vs H Q ∨ ∃ (a : Addr) (kvs : List (Key × V)) (ks : List Int), vs = [.ref a] ∧ H a = some (.dK kvs) ∧ kvs.map (·.1) = ks.map Sum.inl ∧ ks.length < 64 ∧
  ∀ ys : List Int, ys.Perm ks → ys.Pairwise (· ≤ ·) → New H (.lst (ys.map V.int)) fun p H' => Q (.ref p) H'
theorem cr_sortG (hc : X.calm = true) : CallR X (.builtin "sorted") (rSortG X.w) := callr_imp (CallR.or (cr_sortSet hc) (call_sortedDI hc)) fun xs H Q h => by
  rcases h with h | ⟨a, kvs, ks, e, h1, h2, h3, q⟩
  · exact .inl h
  · exact .inr ⟨a, kvs, ks, e, .of h1, h2, h3, fun ys p hp hs hn => (q ys hp hs).at p hn⟩
theorem g_sortD {w : World} {H : Hp} {Q : VK} {a : Addr} {kvs : List (Key × V)} (ks : List Int) (h1 : H a = some (.dK kvs)) (h2 : kvs.map (·.1) = ks.map Sum.inl) (h3 : ks.length < 64)
    (q : ∀ (ys : List Int) (p : Addr) (H' : Hp), ys.Perm ks → ys.Pairwise (· ≤ ·) → Fr H p → H' p = some (.lst (ys.map V.int)) → Same H H' → Q (.ref p) H') : rSortG w [.ref a] H Q :=
  .inr ⟨a, kvs, ks, rfl, h1, h2, h3, fun ys hp hs => New.mk fun p H' f e s => q ys p H' hp hs f e s⟩
/-- set(xs) of a list, of a tuple of ints -/
def rSetTI (K : PySem.W.Frag) (w : World) : List V → Hp → VK → Prop := fun xs H Q => rSetLI K w xs H Q ∨ ∃ (l : Addr) (ns : List Int), xs = [.ref l] ∧ SqT K H l (ns.map V.int) ∧ ns.length ≤ 4000 ∧
  ∀ p n, H p = none → n ≤ ns.length → Q (.ref p) (upd H p (SetO w p (fun j => decide (j ∈ ns)) n))
theorem cr_setT0 (hc : X.calm = true) : CallR X (.type "set") (fun xs H Q => ∃ (l : Addr) (ns : List Int), xs = [.ref l] ∧ SqT X.K H l (ns.map V.int) ∧ ns.length ≤ 4000 ∧
    ∀ p n, H p = none → n ≤ ns.length → Q (.ref p) (upd H p (SetO X.w p (fun j => decide (j ∈ ns)) n))) := by
  intro pins s σ H xs us Q I r h
  obtain ⟨l, ns, rfl, hl, hb, q⟩ := h
  rw [Vals.ref1 r]
  obtain ⟨its, rv, ht, hz⟩ := I.tuple hl
  have hn : H s.heap.objs.size = none := I.hok.fresh (Nat.le_refl _)
  refine call_set_tupI (P := X.prog) (w := X.w) ns (I.ok.hd hc) ht (ints_of_vals rv) (by unfold scanBound; omega) fun h' tk c R1 hcn k => ?_
  exact ⟨.ref s.heap.objs.size, upd H s.heap.objs.size (SetO X.w s.heap.objs.size (fun j => decide (j ∈ ns)) c), I.laid (t' := tk) k (Nat.le_refl _) (setO_new R1), rfl, q _ c hn hcn⟩
theorem cr_setTI (hc : X.calm = true) : CallR X (.type "set") (rSetTI X.K X.w) := CallR.or (cr_setLI hc) (cr_setT0 hc)
/-- sorted(set(t)) of a tuple of ints -/
theorem g_sortsetT {K : PySem.W.Frag} {w : World} {H : Hp} {Q : VK} {l : Addr} {ns : List Int} (h : H l = some (.tup (ns.map V.int))) (hl : ns.length ≤ 4000)
    (q : ∀ (ms : List Int) (p : Addr) (H' : Hp), ms.Pairwise (· < ·) → (∀ k, k ∈ ms ↔ k ∈ ns) → Fr H p → H' p = some (.lst (ms.map V.int)) → Same H H' → Q (.ref p) H') :
    rSetTI K w [.ref l] H fun x H1 => rSortG w [x] H1 Q := by
  refine .inr ⟨l, ns, rfl, .of h, hl, fun p n np hn => .inl ⟨p, _, n, rfl, upd_same, by show n ≤ 16777216; omega, fun ms p2 hs hm hnl np2 => ?_⟩⟩
  have s1 : Same H (upd H p (SetO w p (fun j => decide (j ∈ ns)) n)) := same_upd np
  exact q ms p2 _ hs (fun k => (hm k).trans (by simp)) (s1.free np2) upd_same (s1.trans (same_upd np2))
/-- d.setdefault(k, x) -/
def tDSetdN (td ty tx : TE) : TE := fun σ H Q => td σ H fun x H1 => ∃ a, x = .ref a ∧ IsD H1 a ∧ ty σ H1 fun y H2 => tx σ H2 fun z H3 => ∃ (kvs : List (Key × V)) (k : Key), H3 a = some (.dK kvs) ∧ y = kV k ∧ kvs.length < sizeLine ∧
  (∀ v, valV kvs k = some v → Q v H3) ∧ (valV kvs k = none → Put H3 a (.dK (putK kvs k z)) fun H' => Q z H')
theorem pe_dsetdN {o e f : Expr} {td ty tx : TE} {apos cpos : Pos} (ho : PE X o td) (he : PE X e ty) (hf : PE X f tx) (m : M2 X o "setdefault" apos e f cpos) : PE X (.Call (.Attribute o "setdefault" apos) [e, f] [] cpos) (tDSetdN td ty tx) :=
  ⟨fun pins s σ H Q I h => (pe_dsetd (pe_cl ho) (pe_cl he) (pe_cl hf) m).run pins s σ H Q I ⟨_, h, fun x H1 ⟨a, ex, hd, q1⟩ => ⟨a, ex, hd, _, q1, fun y H2 q2 => ⟨_, q2, fun z H3 ⟨kvs, k, h1, h2, h3, q3, q4⟩ => ⟨kvs, k, h1, h2, h3, q3, fun hn => (q4 hn).at⟩⟩⟩⟩⟩
end
/-! ### two pairs of a dict and a list that are alike -/
section
open PySem.SeqAt (EqIn)
open AutoSeq1 (wpAny_loadPart')
open MeetsSeq MeetsSeq2 MeetsSeq3 SeqRoads2
variable {P : Program} {w : World} {A : Around} {E : Value → Shared → Prop} {s : Shared}
/-- t != u where all items are equal: False -/
theorem ne_tuple_no {t u : Addr} {xs ys : Array Value} {Q : Value → Shared → Prop} (ht : s.heap.IsTuple t xs) (hu : s.heap.IsTuple u ys) (hz : xs.size = ys.size) (room : A.units < cLine)
    (all : ∀ p ∈ xs.toList.zip ys.toList, EqIn P w A.in1 s p.1 p.2 true) (q : Q (.bool false) s) : wpAny (model P w) A (compareOp .NotEq (.ref t) (.ref u)) Q E s := by
  refine wpAny_richCompare_same_room (op := .NotEq) ht.typeIs hu.typeIs F.slot_tuple_ne (wpAny_call_entry F.slot_tuple_ne ht.typeIs F.entry_tuple_ne ?_ (F.args_tuple_ne_2 _ _)) room
  obtain ⟨⟨c1, d1, g1, l1⟩, o1, k1, n1, e1⟩ := id ht
  obtain ⟨⟨c2, d2, g2, l2⟩, o2, k2, n2, e2⟩ := id hu
  simp only at k1 e1 k2 e2
  subst k1 e1 k2 e2
  have sub := AutoSeq1.sub_tuple_tuple
  obtain ⟨hp, gs, dr, tk, os⟩ := s
  wp_walk using wpAny_loadPart' o1, wpAny_loadPart' o2, wpAny_forIn_list _ (fun rest b s' => b.1 = none ∧ s' = ⟨hp, gs, dr, tk, os⟩ ∧ ∀ p ∈ rest, EqIn P w A.in1 ⟨hp, gs, dr, tk, os⟩ p.1 p.2 true) _
  case turn =>
    rintro ⟨x, y⟩ rest b s' ⟨hb, rfl, each⟩
    refine wpAny_bind (each (x, y) List.mem_cons_self _ _ ?_)
    wp_walk
    exact ⟨rfl, rfl, fun p hp => each p (List.mem_cons_of_mem _ hp)⟩
  case fin =>
    rintro ⟨r, ⟨⟩⟩ s' ⟨hb, rfl, _⟩
    simp only at hb
    subst hb
    wp_walk
    exact ⟨_, rfl, (fun x => nomatch x), by simpa [Builtin.Tuple.tupleCompareSizes, bne, hz] using q⟩
  case h => exact ⟨rfl, rfl, all⟩
theorem hitsIn {K : Type} [DecidableEq K] {kb : List (K × Value)} : ∀ {r : List (K × Value)} {b : Bool}, PySem.W.KeqHits A s kb r b → PySem.W.KeqHitsIn P w A s kb r b
  | _, _, .nil => .nil
  | _, _, .miss h => .miss h
  | _, _, .hit h e r => .hit h (e.inModel P w) (hitsIn r)
end
section
variable {X : Cx}
/-- (d, l) != (e, m): the dicts hold the same, the lists the same flat things -/
def rNeH (K : PySem.W.Frag) : R2 := fun x y H Q => rNeG K x y H Q ∨ ∃ p q a b c d ks ls xs ys, x = .ref p ∧ y = .ref q ∧ SqT K H p [.ref a, .ref b] ∧ SqT K H q [.ref c, .ref d] ∧ H a = some (.dK ks) ∧ H c = some (.dK ls) ∧ ks.length = ls.length ∧
  (∀ p ∈ ks, valV ls p.1 = some p.2 ∧ flatR p.2 = true) ∧ SqL K H b xs ∧ SqL K H d ys ∧ xs = ys ∧ xs.all flatB = true ∧ Q (.bl false) H
theorem paired_same {F : V → V → Prop} : ∀ {xs : List V}, (∀ x ∈ xs, F x x) → Paired F xs xs
  | [], _ => .nil
  | x :: xs, h => .cons (h x List.mem_cons_self) (paired_same fun y hy => h y (List.mem_cons_of_mem _ hy))
theorem op_neH (hu : X.A.units + 200 < cLine) : OpR X (compareOp .NotEq) (rNeH X.K) := (op_neG hu).or (by
  intro pins s σ H x y v u Q I rx ry ⟨p, q, a, b, c, d, ks, ls, xs, ys, e1, e2, hp, hq, ha, hc, hl, hd, hb, hdd, exy, fl, z⟩
  subst e1 e2 exy
  cases (show v = Value.ref p from rx)
  cases (show u = Value.ref q from ry)
  obtain ⟨us, r1, p1, _⟩ := I.tuple hp
  obtain ⟨ws, r2, p2, _⟩ := I.tuple hq
  cases r1 with
  | cons ra r1 =>
  cases r1 with
  | cons rb r1 =>
  cases r1
  cases r2 with
  | cons rc r2 =>
  cases r2 with
  | cons rd r2 =>
  cases r2
  cases ra
  cases rb
  cases rc
  cases rd
  refine ne_tuple_no p1 p2 rfl (by omega) ?_ ⟨.bl false, H, I, rfl, z⟩
  intro r hr
  simp only [List.zip_cons_cons, List.zip_nil_right, List.mem_cons, List.not_mem_nil, or_false] at hr
  rcases hr with rfl | rfl
  · show SeqAt.EqIn X.prog X.w X.A.in1 s (.ref a) (.ref c) true
    by_cases e : a = c
    · subst e
      exact (SeqAt.EqAt.same _).inModel _ _
    · refine SeqAt.EqIn.of_refs e fun E Q hq => ?_
      obtain ⟨_, ya, va, ra, da⟩ := (show ObjOk X.prog X.w H s.heap a (.dK ks) from I.hok a _ ha)
      obtain ⟨_, yb, vb, rb, db⟩ := (show ObjOk X.prog X.w H s.heap c (.dK ls) from I.hok c _ hc)
      have hle : va.length = vb.length := by rw [← ra.length, ← rb.length]; exact hl
      exact PySem.W.keq_eqIn (knd := mixKind X.prog X.w) (r := true) ya yb da db (by show X.A.units + 1 < cLine; omega) (fun _ => hitsIn (hits_allR rb ra hd)) (by simpa [hle] using hq)
  · show SeqAt.EqIn X.prog X.w X.A.in1 s (.ref b) (.ref d) true
    refine (lk_eqAt I 2 X.A.in1 (by show X.A.units + 1 + 2 < cLine; omega) (.ref b) (.ref d) _ _ ?_ rfl rfl).inModel _ _
    exact .inr (.inr (.inl ⟨b, d, xs, xs, rfl, rfl, hb, hdd, paired_same fun x hx => .inl ⟨rfl, List.all_eq_true.mp fl x hx⟩⟩)))
theorem g_neH {K : PySem.W.Frag} {H : Hp} {Q : VK} {p q a b c d : Addr} {ks : List (Key × V)} {xs : List V} (hp : H p = some (.tup [.ref a, .ref b])) (hq : H q = some (.tup [.ref c, .ref d])) (ha : H a = some (.dK ks)) (hc : H c = some (.dK ks))
    (hk : (ks.map (·.1)).Nodup) (hf : ∀ p ∈ ks, flatR p.2 = true) (hb : H b = some (.lst xs)) (hd : H d = some (.lst xs)) (fl : xs.all flatB = true) (z : Q (.bl false) H) : rNeH K (.ref p) (.ref q) H Q :=
  .inr ⟨p, q, a, b, c, d, ks, ks, xs, xs, rfl, rfl, .of hp, .of hq, ha, hc, rfl, fun p hp => ⟨valV_mem hk p hp, hf p hp⟩, .of hb, .of hd, rfl, fl, z⟩
end

local macro_rules | `(tactic| walk_at "g1") => `(tactic| first
  | with_reducible refine g_seq ?_ | with_reducible refine g_asg ?_ | with_reducible refine g_op ?_ | with_reducible refine g_ixop ?_ | ((with_reducible refine g_ixL (xs := ?gx) (v := ?gv) (SqL.of ?gh) ?ge ?_); (case gh => assumption); (case ge => exact rfl)) | with_reducible refine g_c ?_
  | ((with_reducible refine g_var (v := ?gv) ?gh ?_); (case gh => exact rfl))
  | ((with_reducible refine g_name (σ' := ?gs) ?gh ?_); (case gh => (dsimp only [List.set]; exact rfl)))
  | with_reducible refine g_cons ?_ | with_reducible refine g_nil ?_ | with_reducible refine g_ifs ?_ | with_reducible refine g_test ?_ | with_reducible refine g_bl ?_ | with_reducible refine g_cb ?_
  | with_reducible refine g_addI ?_ | with_reducible refine g_subI ?_ | with_reducible refine g_eqI ?_ | with_reducible refine g_eqS ?_ | with_reducible refine g_neI ?_ | with_reducible refine g_neS ?_
  | with_reducible refine g_ltI ?_ | with_reducible refine g_leI ?_ | with_reducible refine g_gtI ?_ | with_reducible refine g_geI ?_
  | with_reducible refine g_ret ?_ | with_reducible refine g_next ?_ | with_reducible refine g_call ?_ | with_reducible refine g_drop ?_ | with_reducible refine g_sub ?_
  | with_reducible refine g_and ?_ | with_reducible refine g_or ?_ | with_reducible refine g_not ?_ | with_reducible refine g_tru ?_ | with_reducible refine g_trubl ?_ | with_reducible refine g_truint ?_ | with_reducible refine g_ifx ?_
  | with_reducible refine g_abs ?_ | with_reducible refine g_max2 ?_ | with_reducible refine g_min2 ?_ | with_reducible refine g_intI ?_ | with_reducible refine g_intB ?_
  | with_reducible refine g_tup ?_ | with_reducible refine g_lst ?_ | ((with_reducible refine g_len ?gl ?_); (case gl => (show _ ≤ 16777216; simp only [List.length_cons, List.length_nil]; omega))) | with_reducible refine g_dnew ?_
  | with_reducible refine g_bm ?_ | with_reducible refine g_bm0 ?_ | with_reducible refine g_m1 ?_ | with_reducible refine g_isstr ?_ | with_reducible refine g_sl ?_ | with_reducible refine g_nopart ?_ | with_reducible refine g_part ?_ | with_reducible refine g_ispart ?_
  | with_reducible refine g_un ?_ | with_reducible refine g_neg ?_ | with_reducible refine g_andT ?_ | with_reducible refine g_orT ?_ | with_reducible refine g_notT ?_ | with_reducible refine g_rev ?_ | with_reducible refine g_par ?_ | with_reducible refine g_lc ?_ | with_reducible refine g_for ?_ | with_reducible refine g_rng1 ?_ | with_reducible refine g_yes ?_ | with_reducible refine g_isS ?_ | with_reducible refine g_disp ?_ | with_reducible refine g_pcons ?_ | with_reducible refine g_pnil ?_ | with_reducible refine g_get2 ?_)
local macro_rules | `(tactic| walk_at "go") => `(tactic| repeat walk_at "g1")

def topS (i : Nat) : Stmt := PySem.Challenge.pw_lazywebs_k62_bent_papers_of_sweeps.main.body.getD i (.Pass ⟨0, 0, 0, 0⟩)
/-! ### the head -/
def dd (x : Str) (i : Nat) : He.DefD := ⟨(x, none), x, x, defArgs (topS i), defBody (topS i), defScope (topS i), [], []⟩
def hfn : List He.DefD := [dd "named_by" 1, dd "is_alike" 3, dd "is_way" 5, dd "are_kept" 6, dd "lets_sweep" 7, dd "_law_pen" 9, dd "_law_draw" 10, dd "_law_named" 11, dd "_law_reached" 12, dd "_law_same" 13, dd "_law_cells" 14, dd "_law_paper_right" 15, dd "_law_way" 16, dd "_law_bent_row" 17, dd "_law_bent_paper" 18, dd "law" 19]
def hfa : List He.Fa := [.glo "named_by", .glo "is_alike", .glo "is_way", .glo "are_kept", .glo "lets_sweep", .glo "_law_pen", .glo "_law_draw", .glo "_law_named", .glo "_law_reached", .glo "_law_same", .glo "_law_cells", .glo "_law_paper_right", .glo "_law_way", .glo "_law_bent_row", .glo "_law_bent_paper", .glo "law", .free "list", .free "tuple", .free "isinstance", .free "len", .free "zip", .free "all", .free "str", .free "int", .free "bool", .free "range", .free "max", .free "abs", .free "repr", .free "set", .free "sorted", .free "dict"]
def hts : List He.Tab := []
def hex (K : PySem.W.Frag) : Bool := true
abbrev hR : PySem.W.OpenRow := PySem.W.OpenLaw.row PySem.Challenge.rw_lazywebs_k62_bent_papers_of_sweeps
abbrev hk : PySem.W.Hook := He.hookX 5 hfa hfn hts [] hex
def ob (s : PySem.W.SharedT) : He.AlX := He.obsX 5 hfa hfn hts [] hex (HandSHeadRun.getT s)
theorem ob_eq (s : PySem.W.SharedT) : ob s = hk.obs s.abs := He.obsX_eq (HandSHeadRun.getT_eq s)
def loose0 : List Str := ["named_by", "is_alike", "is_way", "are_kept", "lets_sweep", "_law_pen", "_law_draw", "_law_named", "_law_reached", "_law_same", "_law_cells", "_law_paper_right", "_law_way", "_law_bent_row", "_law_bent_paper"]
def hloose : List Str := loose0
theorem hrun (w : World) : HandSHeadRun.RunEq hR (PySem.W.view hR.prog [19]) hk ob 4000 hloose w := by
  intro os
  kernel_rfl
/-! ### the readings of the defs -/
def t_named_by (K : PySem.W.Frag) (w : World) : TS :=
  (tSeq (tIfS (tTest (tOp (rInG K w false) (tIxG K w (tVar 0) (tC (.int 0))) (tTupN (tCons (tC (.str "number")) (tCons (tC (.str "call")) (tCons (tC (.str "bare")) tNil)))))) (tRet (tLstN tNil)) tNext)
  (tSeq (tIfS (tTest (tOp (rEqG K) (tIxG K w (tVar 0) (tC (.int 0))) (tC (.str "function")))) (tRet (tCB (rListG K) (tCons (tIxG K w (tVar 0) (tC (.int 2))) tNil))) tNext)
  (tRet (tCB (rListG K) (tCons (tSl (rSlG K) (tVar 0) (tPart (tC (.int 1))) tNoPart) tNil)))))
def t_is_alike (K : PySem.W.Frag) (w : World) (s_is_alike : Sp) : TS :=
  (tSeq (tIfS (tTru K (tCB (rIsiG K) (tCons (tVar 1) (tCons (tC (.ty "tuple")) tNil)))) (tSeq (tIfS (tOr (tNot (tTru K (tCB (rIsiG K) (tCons (tVar 0) (tCons (tC (.ty "tuple")) tNil))))) (tTest (tOp (rNeG K) (tCB (rLenG K) (tCons (tVar 0) tNil)) (tCB (rLenG K) (tCons (tVar 1) tNil))))) (tRet (tC (.bl false))) tNext)
  (tRet (tCB (rAll K) (tCons (tLc (iZipM K (tCons (tVar 0) (tCons (tVar 1) tNil))) (gTup K 2 (gCons (gName 2) (gCons (gName 3) gNil))) tYes (tCall s_is_alike [] E0 (tCons (tVar 2) (tCons (tVar 3) tNil))) [2, 3]) tNil)))) tNext)
  (tSeq (tIfS (tTru K (tCB (rIsiG K) (tCons (tVar 1) (tCons (tC (.ty "str")) tNil)))) (tRet (tAndT K (tCB (rIsiG K) (tCons (tVar 0) (tCons (tC (.ty "str")) tNil))) (tOp (rEqG K) (tVar 0) (tVar 1)))) tNext)
  (tRet (tAndT K (tCB (rIsiG K) (tCons (tVar 0) (tCons (tC (.ty "int")) tNil))) (tAndT K (tNotT K (tCB (rIsiG K) (tCons (tVar 0) (tCons (tC (.ty "bool")) tNil)))) (tOp (rEqG K) (tVar 0) (tVar 1)))))))
def t_is_way (K : PySem.W.Frag) (w : World) (s_is_alike : Sp) (s_named_by : Sp) : TS :=
  (tSeq (tIfS (tOr (tNot (tTru K (tCB (rIsiG K) (tCons (tVar 2) (tCons (tC (.ty "tuple")) tNil))))) (tOr (tTest (tOp (rEqT K) (tVar 2) (tTupN tNil))) (tNot (tTru K (tCall s_is_alike [] E0 (tCons (tIxG K w (tVar 2) (tUn (rU fun i => .int (-i)) (tC (.int 1)))) (tCons (tVar 3) tNil))))))) (tRet (tC (.bl false))) tNext)
  (tSeq (tFor (iRng1 (tCons (tCB (rLenG K) (tCons (tVar 2) tNil)) tNil)) (gName 4) (tSeq (tIfS (tOr (tNot (tTru K (tCB (rIsiG K) (tCons (tIxG K w (tVar 2) (tVar 4)) (tCons (tC (.ty "int")) tNil))))) (tOr (tTru K (tCB (rIsiG K) (tCons (tIxG K w (tVar 2) (tVar 4)) (tCons (tC (.ty "bool")) tNil)))) (tTest (tOp (rInG K w true) (tIxG K w (tVar 2) (tVar 4)) (tVar 0))))) (tRet (tC (.bl false))) tNext)
  (tIfS (tOr (tAnd (tTest (tOp (rEqG K) (tVar 4) (tC (.int 0)))) (tTest (tOp (rInG K w true) (tIxG K w (tVar 2) (tVar 4)) (tVar 1)))) (tAnd (tTest (tOp rGtG (tVar 4) (tC (.int 0)))) (tTest (tOp (rInG K w true) (tIxG K w (tVar 2) (tVar 4)) (tCall s_named_by [] E0 (tCons (tIxG K w (tVar 0) (tIxG K w (tVar 2) (tOp rSubG (tVar 4) (tC (.int 1))))) tNil)))))) (tRet (tC (.bl false))) tNext)))
  (tRet (tC (.bl true)))))
def t_are_kept (K : PySem.W.Frag) (w : World) (s_named_by : Sp) : TS :=
  (tSeq (tIfS (tNot (tTru K (tCB (rIsiG K) (tCons (tVar 2) (tCons (tC (.ty "tuple")) tNil))))) (tRet (tC (.bl false))) tNext)
  (tSeq (tAsg (tDNewKN) (gName 3))
  (tSeq (tFor (iRng1 (tCons (tCB (rLenG K) (tCons (tVar 2) tNil)) tNil)) (gName 4) (tSeq (tIfS (tOr (tNot (tTru K (tCB (rIsiG K) (tCons (tIxG K w (tVar 2) (tVar 4)) (tCons (tC (.ty "int")) tNil))))) (tOr (tTru K (tCB (rIsiG K) (tCons (tIxG K w (tVar 2) (tVar 4)) (tCons (tC (.ty "bool")) tNil)))) (tTest (tOp (rInG K w true) (tIxG K w (tVar 2) (tVar 4)) (tVar 0))))) (tRet (tC (.bl false))) tNext)
  (tSeq (tIfS (tAnd (tTest (tOp rGtG (tVar 4) (tC (.int 0)))) (tTest (tOp rGeG (tIxG K w (tVar 2) (tOp rSubG (tVar 4) (tC (.int 1)))) (tIxG K w (tVar 2) (tVar 4))))) (tRet (tC (.bl false))) tNext)
  (tAsg (tC (.bl true)) (gSub (tVar 3) (tIxG K w (tVar 2) (tVar 4)) rSetG)))))
  (tSeq (tFor (iSeq K (tVar 2)) (gName 5) (tIfS (tNot (tTru K (tCB (rAll K) (tCons (tLc (iSeq K (tCall s_named_by [] E0 (tCons (tIxG K w (tVar 0) (tVar 5)) tNil))) (gName 6) tYes (tOp (rInG K w false) (tVar 6) (tVar 3)) [6]) tNil)))) (tRet (tC (.bl false))) tNext))
  (tRet (tCB (rAll K) (tCons (tLc (iSeq K (tVar 1)) (gName 5) tYes (tOp (rInG K w false) (tVar 5) (tVar 3)) [5]) tNil)))))))
def t_lets_sweep (K : PySem.W.Frag) (w : World) (s_are_kept : Sp) (s_is_way : Sp) : TS :=
  (tSeq (tIfS (tOr (tNot (tTru K (tCB (rIsiG K) (tCons (tVar 2) (tCons (tC (.ty "tuple")) tNil))))) (tOr (tTest (tOp (rNeG K) (tCB (rLenG K) (tCons (tVar 2) tNil)) (tC (.int 2)))) (tNot (tTru K (tCall s_are_kept [] E0 (tCons (tVar 0) (tCons (tVar 1) (tCons (tIxG K w (tVar 2) (tC (.int 0))) tNil)))))))) (tRet (tC (.bl false))) tNext)
  (tSeq (tIfS (tOr (tNot (tTru K (tCB (rIsiG K) (tCons (tIxG K w (tVar 2) (tC (.int 1))) (tCons (tC (.ty "tuple")) tNil))))) (tTest (tOp (rNeG K) (tCB (rLenG K) (tCons (tIxG K w (tVar 2) (tC (.int 1))) tNil)) (tCB (rLenG K) (tCons (tIxG K w (tVar 2) (tC (.int 0))) tNil))))) (tRet (tC (.bl false))) tNext)
  (tRet (tCB (rAll K) (tCons (tLc (iZipM K (tCons (tIxG K w (tVar 2) (tC (.int 1))) (tCons (tIxG K w (tVar 2) (tC (.int 0))) tNil))) (gTup K 2 (gCons (gName 3) (gCons (gName 4) gNil))) tYes (tCall s_is_way [] E0 (tCons (tVar 0) (tCons (tVar 1) (tCons (tVar 3) (tCons (tVar 4) tNil))))) [3, 4]) tNil)))))
def t_law_pen (K : PySem.W.Frag) (w : World) : TS :=
  (tRet (tLstN (tCons (tCB (rListG K) (tCons (tSl (rSlG K) (tVar 0) tNoPart (tPart (tC (.int 63)))) tNil)) (tCons (tC (.int 0)) (tCons (tC (.int 0)) tNil)))))
def t_law_draw (K : PySem.W.Frag) (w : World) : TS :=
  (tSeq (tIfS (tTest (tOp rGtG (tIxG K w (tVar 0) (tC (.int 2))) (tC (.int 0)))) (tSeq (tAsg (tOp rModG (tIxG K w (tVar 0) (tC (.int 2))) (tVar 1)) (gName 2))
  (tSeq (tAsg (tOp rDivG (tIxG K w (tVar 0) (tC (.int 2))) (tVar 1)) (gSub (tVar 0) (tC (.int 2)) rSetG))
  (tRet (tVar 2)))) tNext)
  (tSeq (tAsg (tIxG K w (tVar 0) (tC (.int 1))) (gName 3))
  (tSeq (tAsg (tOp (rAddG K) (tVar 3) (tC (.int 1))) (gSub (tVar 0) (tC (.int 1)) rSetG))
  (tSeq (tAsg (tIxG K w (tOp (rAddG K) (tIxG K w (tVar 0) (tC (.int 0))) (tLstN (tCons (tC (.int 7)) tNil))) (tOp rModG (tVar 3) (tCB rMax2 (tCons (tC (.int 1)) (tCons (tCB (rLenG K) (tCons (tIxG K w (tVar 0) (tC (.int 0))) tNil)) tNil))))) (gName 4))
  (tSeq (tIfS (tAnd (tTest (tOp rLtG (tVar 3) (tCB (rLenG K) (tCons (tIxG K w (tVar 0) (tC (.int 0))) tNil)))) (tTest (tOp rGeG (tCB rAbsG (tCons (tVar 4) tNil)) (tOp rPowG (tC (.int 10)) (tC (.int 18)))))) (tSeq (tAsg (tOp rDivG (tCB rAbsG (tCons (tVar 4) tNil)) (tVar 1)) (gSub (tVar 0) (tC (.int 2)) rSetG))
  (tRet (tOp rModG (tCB rAbsG (tCons (tVar 4) tNil)) (tVar 1)))) tNext)
  (tSeq (tAsg (tIxG K w (tLstN (tCons (tC (.int 2147483647)) (tCons (tC (.int 2147483629)) (tCons (tC (.int 2147483587)) (tCons (tC (.int 2147483579)) (tCons (tC (.int 2147483563)) (tCons (tC (.int 2147483549)) (tCons (tC (.int 2147483543)) tNil)))))))) (tOp rModG (tVar 3) (tC (.int 7)))) (gName 5))
  (tSeq (tAsg (tOp rModG (tOp rMulG (tOp (rAddG K) (tOp (rAddG K) (tOp rModG (tVar 4) (tC (.int 2147483497))) (tOp rMulG (tC (.int 69621)) (tVar 3))) (tC (.int 13))) (tC (.int 48271))) (tVar 5)) (gName 6))
  (tSeq (tAsg (tOp rModG (tOp (rAddG K) (tOp (rAddG K) (tOp rMulG (tVar 6) (tVar 6)) (tOp rMulG (tC (.int 40692)) (tVar 6))) (tVar 3)) (tC (.int 2147483489))) (gName 6))
  (tRet (tOp rModG (tOp rDivG (tOp rModG (tOp rMulG (tVar 6) (tC (.int 16807))) (tC (.int 2147483477))) (tC (.int 32))) (tVar 1)))))))))))
def t_law_named (K : PySem.W.Frag) (w : World) : TS :=
  (tSeq (tIfS (tTest (tOp (rInG K w false) (tIxG K w (tVar 0) (tC (.int 0))) (tTupN (tCons (tC (.str "number")) (tCons (tC (.str "call")) (tCons (tC (.str "bare")) tNil)))))) (tRet (tLstN tNil)) tNext)
  (tRet (tCB (rListG K) (tCons (tIxG K w (tLstN (tCons (tSl (rSlG K) (tVar 0) (tPart (tC (.int 1))) tNoPart) (tCons (tIxG K w (tVar 0) (tUn (rU fun i => .int (-i)) (tC (.int 1)))) tNil))) (tCB rIntG (tCons (tOp (rEqG K) (tIxG K w (tVar 0) (tC (.int 0))) (tC (.str "function"))) tNil))) tNil))))
def t_law_reached (K : PySem.W.Frag) (w : World) (s_law_named : Sp) : TS :=
  (tSeq (tAsg (tDNewKN) (gName 2))
  (tSeq (tAsg (tCB (rListG K) (tCons (tVar 1) tNil)) (gName 3))
  (tSeq (tWhile (tTest (tOp (rNeG K) (tVar 3) (tLstN tNil))) (tSeq (tAsg (tBM0 K "list" rPopG (tVar 3)) (gName 4))
  (tIfS (tTest (tOp (rInG K w true) (tVar 4) (tVar 2))) (tSeq (tAsg (tC (.bl true)) (gSub (tVar 2) (tVar 4) rSetG))
  (tDrop (tBM K "list" rExtendG (tVar 3) (tCons (tCall s_law_named [] E0 (tCons (tIxG K w (tVar 0) (tVar 4)) tNil)) tNil)))) tNext)))
  (tRet (tVar 2)))))
def t_law_same (K : PySem.W.Frag) (w : World) : TS :=
  (tRet (tOp (rEqG K) (tCB (rRepr K) (tCons (tVar 0) tNil)) (tCB (rRepr K) (tCons (tVar 1) tNil))))
def t_law_cells (K : PySem.W.Frag) (w : World) (s_law_draw : Sp) : TS :=
  (tSeq (tAsg (tOp (rAddG K) (tC (.int 1)) (tCall s_law_draw [] E0 (tCons (tVar 0) (tCons (tC (.int 14)) tNil)))) (gName 1))
  (tSeq (tAsg (tTupN (tCons (tCall s_law_draw [] E0 (tCons (tVar 0) (tCons (tC (.int 30)) tNil))) (tCons (tOp (rAddG K) (tC (.int 1)) (tCall s_law_draw [] E0 (tCons (tVar 0) (tCons (tC (.int 9)) tNil)))) tNil))) (gTup K 2 (gCons (gName 2) (gCons (gName 3) gNil))))
  (tSeq (tAsg (tLc (iRng1 (tCons (tVar 1) tNil)) (gName 5) tYes (tOp (rAddG K) (tVar 2) (tOp rMulG (tVar 3) (tVar 5))) [5]) (gName 4))
  (tSeq (tAsg (tDNewKN) (gName 6))
  (tSeq (tFor (iRng1 (tCons (tVar 1) tNil)) (gName 5) (tSeq (tAsg (tLc (iRng1 (tCons (tC (.int 3)) tNil)) (gName 8) tYes (tIxG K w (tVar 4) (tCall s_law_draw [] E0 (tCons (tVar 0) (tCons (tVar 1) tNil)))) [8]) (gName 7))
  (tSeq (tAsg (tLstN (tCons (tTupN (tCons (tC (.str "number")) (tCons (tCall s_law_draw [] E0 (tCons (tVar 0) (tCons (tC (.int 30)) tNil))) tNil))) (tCons (tTupN (tCons (tC (.str "same")) (tCons (tIxG K w (tVar 7) (tC (.int 0))) tNil))) (tCons (tTupN (tCons (tC (.str "pair")) (tCons (tIxG K w (tVar 7) (tC (.int 0))) (tCons (tIxG K w (tVar 7) (tC (.int 1))) tNil)))) (tCons (tTupN (tCons (tC (.str "left")) (tCons (tIxG K w (tVar 7) (tC (.int 0))) tNil))) (tCons (tTupN (tCons (tC (.str "bare")) tNil)) tNil)))))) (gName 9))
  (tSeq (tAsg (tOp (rAddG K) (tVar 9) (tLstN (tCons (tOp (rAddG K) (tTupN (tCons (tC (.str "when")) tNil)) (tCB (rTupleG K) (tCons (tVar 7) tNil))) (tCons (tTupN (tCons (tC (.str "give")) (tCons (tIxG K w (tVar 7) (tC (.int 0))) (tCons (tIxG K w (tVar 7) (tC (.int 1))) tNil)))) (tCons (tTupN (tCons (tC (.str "function")) (tCons (tC (.str "f")) (tCons (tCB (rTupleG K) (tCons (tSl (rSlG K) (tVar 7) tNoPart (tPart (tCall s_law_draw [] E0 (tCons (tVar 0) (tCons (tC (.int 4)) tNil))))) tNil)) tNil)))) tNil))))) (gName 9))
  (tSeq (tAsg (tOp (rAddG K) (tVar 9) (tLstN (tCons (tTupN (tCons (tC (.str "call")) (tCons (tC (.str "f")) tNil))) (tCons (tTupN (tCons (tC (.str "plus")) (tCons (tIxG K w (tVar 7) (tC (.int 1))) (tCons (tIxG K w (tVar 7) (tC (.int 2))) tNil)))) tNil)))) (gName 9))
  (tAsg (tIxG K w (tVar 9) (tCall s_law_draw [] E0 (tCons (tVar 0) (tCons (tC (.int 10)) tNil)))) (gSub (tVar 6) (tIxG K w (tVar 4) (tIf (tTest (tOp (rEqG K) (tVar 5) (tC (.int 0)))) (tCall s_law_draw [] E0 (tCons (tVar 0) (tCons (tVar 1) tNil))) (tVar 5))) rSetG)))))))
  (tSeq (tFor (iSeq K (tVar 4)) (gName 10) (tDrop (tDSetdN (tVar 6) (tVar 10) (tTupN (tCons (tC (.str "number")) (tCons (tVar 10) tNil))))))
  (tRet (tTupN (tCons (tVar 6) (tCons (tLc (iSeq K (tVar 4)) (gName 10) (tTest (tOp (rEqG K) (tCall s_law_draw [] E0 (tCons (tVar 0) (tCons (tC (.int 4)) tNil))) (tC (.int 0)))) (tVar 10) [10]) tNil))))))))))
def t_law_paper_right (K : PySem.W.Frag) (w : World) (s_law_named : Sp) : TS :=
  (tSeq (tIfS (tOr (tNot (tTru K (tCB (rIsiG K) (tCons (tVar 2) (tCons (tC (.ty "tuple")) tNil))))) (tOr (tTest (tOp (rNeG K) (tCB (rLenG K) (tCons (tVar 2) tNil)) (tC (.int 2)))) (tOr (tNot (tTru K (tCB (rIsiG K) (tCons (tIxG K w (tVar 2) (tC (.int 0))) (tCons (tC (.ty "tuple")) tNil))))) (tNot (tTru K (tCB (rIsiG K) (tCons (tIxG K w (tVar 2) (tC (.int 1))) (tCons (tC (.ty "tuple")) tNil)))))))) (tRet (tC (.bl false))) tNext)
  (tSeq (tAsg (tVar 2) (gTup K 2 (gCons (gName 3) (gCons (gName 4) gNil))))
  (tSeq (tIfS (tOr (tTest (tOp (rNeG K) (tCB (rLenG K) (tCons (tVar 4) tNil)) (tCB (rLenG K) (tCons (tVar 3) tNil)))) (tTest (tOp (rNeG K) (tLc (iSeq K (tVar 3)) (gName 5) (tOr (tNot (tTru K (tCB (rIsiG K) (tCons (tVar 5) (tCons (tC (.ty "int")) tNil))))) (tTru K (tCB (rIsiG K) (tCons (tVar 5) (tCons (tC (.ty "bool")) tNil))))) (tVar 5) [5]) (tLstN tNil)))) (tRet (tC (.bl false))) tNext)
  (tSeq (tIfS (tOr (tTest (tOp (rNeG K) (tLc (iSeq K (tVar 3)) (gName 5) (tTest (tOp (rInG K w true) (tVar 5) (tVar 0))) (tVar 5) [5]) (tLstN tNil))) (tTest (tOp (rNeG K) (tLc (iSeq K (tVar 1)) (gName 5) (tTest (tOp (rInG K w true) (tVar 5) (tVar 3))) (tVar 5) [5]) (tLstN tNil)))) (tRet (tC (.bl false))) tNext)
  (tSeq (tIfS (tTest (tOp (rNeG K) (tCB (rListG K) (tCons (tVar 3) tNil)) (tCB (rSortG w) (tCons (tCB (rSetTI K w) (tCons (tVar 3) tNil)) tNil)))) (tRet (tC (.bl false))) tNext)
  (tSeq (tFor (iZipM K (tCons (tVar 3) (tCons (tVar 4) tNil))) (gTup K 2 (gCons (gName 6) (gCons (gName 7) gNil))) (tSeq (tIfS (tTest (tOp (rNeG K) (tLc (iSeq K (tCall s_law_named [] E0 (tCons (tIxG K w (tVar 0) (tVar 6)) tNil))) (gName 5) (tTest (tOp (rInG K w true) (tVar 5) (tVar 3))) (tVar 5) [5]) (tLstN tNil))) (tRet (tC (.bl false))) tNext)
  (tSeq (tIfS (tOr (tNot (tTru K (tCB (rIsiG K) (tCons (tVar 7) (tCons (tC (.ty "tuple")) tNil))))) (tOr (tTest (tOp (rEqT K) (tVar 7) (tTupN tNil))) (tTest (tOp (rNeG K) (tLc (iSeq K (tVar 7)) (gName 5) (tOr (tNot (tTru K (tCB (rIsiG K) (tCons (tVar 5) (tCons (tC (.ty "int")) tNil))))) (tTru K (tCB (rIsiG K) (tCons (tVar 5) (tCons (tC (.ty "bool")) tNil))))) (tVar 5) [5]) (tLstN tNil))))) (tRet (tC (.bl false))) tNext)
  (tSeq (tIfS (tOr (tTest (tOp (rInG K w true) (tIxG K w (tVar 7) (tC (.int 0))) (tVar 1))) (tOr (tTest (tOp (rNeG K) (tIxG K w (tVar 7) (tUn (rU fun i => .int (-i)) (tC (.int 1)))) (tVar 6))) (tTest (tOp (rNeG K) (tLc (iSeq K (tVar 7)) (gName 5) (tTest (tOp (rInG K w true) (tVar 5) (tVar 0))) (tVar 5) [5]) (tLstN tNil))))) (tRet (tC (.bl false))) tNext)
  (tIfS (tTest (tOp (rInG K w false) (tC (.bl false)) (tLc (iRng1 (tCons (tOp rSubG (tCB (rLenG K) (tCons (tVar 7) tNil)) (tC (.int 1))) tNil)) (gName 8) tYes (tOp (rInG K w false) (tIxG K w (tVar 7) (tOp (rAddG K) (tVar 8) (tC (.int 1)))) (tCall s_law_named [] E0 (tCons (tIxG K w (tVar 0) (tIxG K w (tVar 7) (tVar 8))) tNil))) [8]))) (tRet (tC (.bl false))) tNext)))))
  (tRet (tC (.bl true)))))))))
def t_law_way (K : PySem.W.Frag) (w : World) (s_law_named : Sp) : TS :=
  (tSeq (tAsg (tCB (rDictP K) (tCons (tLc (iSeq K (tVar 1)) (gName 4) tYes (tTupN (tCons (tVar 4) (tCons (tTupN (tCons (tVar 4) tNil)) tNil))) [4]) tNil)) (gName 3))
  (tSeq (tFor (iRng1 (tCons (tCB (rLenG K) (tCons (tVar 0) tNil)) tNil)) (gName 5) (tFor (iSeq K (tCB (rSortG w) (tCons (tVar 3) tNil))) (gName 6) (tFor (iSeq K (tCall s_law_named [] E0 (tCons (tIxG K w (tVar 0) (tVar 6)) tNil))) (gName 7) (tIfS (tTest (tOp (rInG K w true) (tVar 7) (tVar 3))) (tAsg (tOp (rAddG K) (tIxG K w (tVar 3) (tVar 6)) (tTupN (tCons (tVar 7) tNil))) (gSub (tVar 3) (tVar 7) rSetG)) tNext))))
  (tRet (tIxG K w (tVar 3) (tVar 2)))))
def t_law_bent_row (K : PySem.W.Frag) (w : World) (s_law_draw : Sp) : TS :=
  (tSeq (tIfS (tOr (tNot (tTru K (tCB (rIsiG K) (tCons (tVar 1) (tCons (tC (.ty "tuple")) tNil))))) (tTest (tOp (rEqT K) (tVar 1) (tTupN tNil)))) (tRet (tIxG K w (tLstN (tCons (tTupN tNil) (tCons (tTupN (tCons (tIxG K w (tVar 2) (tC (.int 0))) tNil)) (tCons (tLstN tNil) (tCons (tC .non) tNil))))) (tCall s_law_draw [] E0 (tCons (tVar 0) (tCons (tC (.int 4)) tNil))))) tNext)
  (tSeq (tAsg (tCall s_law_draw [] E0 (tCons (tVar 0) (tCons (tCB (rLenG K) (tCons (tVar 1) tNil)) tNil))) (gName 3))
  (tSeq (tAsg (tIxG K w (tVar 2) (tCall s_law_draw [] E0 (tCons (tVar 0) (tCons (tCB (rLenG K) (tCons (tVar 2) tNil)) tNil)))) (gName 4))
  (tSeq (tAsg (tLstN (tCons (tOp (rAddG K) (tSl (rSlG K) (tVar 1) tNoPart (tPart (tVar 3))) (tSl (rSlG K) (tVar 1) (tPart (tOp (rAddG K) (tVar 3) (tC (.int 1)))) tNoPart)) (tCons (tOp (rAddG K) (tSl (rSlG K) (tVar 1) tNoPart (tPart (tOp (rAddG K) (tVar 3) (tC (.int 1))))) (tSl (rSlG K) (tVar 1) (tPart (tVar 3)) tNoPart)) (tCons (tOp (rAddG K) (tOp (rAddG K) (tSl (rSlG K) (tVar 1) tNoPart (tPart (tVar 3))) (tTupN (tCons (tVar 4) tNil))) (tSl (rSlG K) (tVar 1) (tPart (tOp (rAddG K) (tVar 3) (tC (.int 1)))) tNoPart)) (tCons (tRevT K (tVar 1)) (tCons (tCB (rListG K) (tCons (tVar 1) tNil)) (tCons (tSl (rSlG K) (tVar 1) tNoPart (tPart (tVar 3))) tNil))))))) (gName 5))
  (tSeq (tAsg (tOp (rAddG K) (tVar 5) (tLstN (tCons (tOp (rAddG K) (tVar 1) (tTupN (tCons (tVar 4) tNil))) (tCons (tOp (rAddG K) (tTupN (tCons (tVar 4) tNil)) (tVar 1)) (tCons (tOp (rAddG K) (tOp (rAddG K) (tSl (rSlG K) (tVar 1) tNoPart (tPart (tVar 3))) (tTupN (tCons (tC (.bl true)) tNil))) (tSl (rSlG K) (tVar 1) (tPart (tOp (rAddG K) (tVar 3) (tC (.int 1)))) tNoPart)) (tCons (tOp (rAddG K) (tOp (rAddG K) (tSl (rSlG K) (tVar 1) tNoPart (tPart (tVar 3))) (tTupN (tCons (tC .non) tNil))) (tSl (rSlG K) (tVar 1) (tPart (tOp (rAddG K) (tVar 3) (tC (.int 1)))) tNoPart)) tNil)))))) (gName 5))
  (tSeq (tAsg (tOp (rAddG K) (tVar 5) (tLstN (tCons (tOp (rAddG K) (tOp (rAddG K) (tSl (rSlG K) (tVar 1) tNoPart (tPart (tVar 3))) (tTupN (tCons (tOp (rAddG K) (tVar 4) (tC (.int 1))) tNil))) (tSl (rSlG K) (tVar 1) (tPart (tOp (rAddG K) (tVar 3) (tC (.int 1)))) tNoPart)) (tCons (tC .non) (tCons (tTupN tNil) (tCons (tVar 1) tNil)))))) (gName 5))
  (tRet (tIxG K w (tVar 5) (tCall s_law_draw [] E0 (tCons (tVar 0) (tCons (tC (.int 14)) tNil)))))))))))
def t_law_bent_paper (K : PySem.W.Frag) (w : World) (s_law_draw : Sp) (s_law_bent_row : Sp) : TS :=
  (tSeq (tIfS (tOr (tNot (tTru K (tCB (rIsiG K) (tCons (tVar 1) (tCons (tC (.ty "tuple")) tNil))))) (tOr (tTest (tOp (rNeG K) (tCB (rLenG K) (tCons (tVar 1) tNil)) (tC (.int 2)))) (tOr (tNot (tTru K (tCB (rIsiG K) (tCons (tIxG K w (tVar 1) (tC (.int 1))) (tCons (tC (.ty "tuple")) tNil))))) (tTest (tOp (rEqG K) (tCall s_law_draw [] E0 (tCons (tVar 0) (tCons (tC (.int 9)) tNil))) (tC (.int 0))))))) (tSeq (tAsg (tIf (tTru K (tCB (rIsiG K) (tCons (tVar 1) (tCons (tC (.ty "tuple")) tNil)))) (tCB (rListG K) (tCons (tVar 1) tNil)) (tLstN (tCons (tVar 1) tNil))) (gName 3))
  (tRet (tIxG K w (tLstN (tCons (tVar 3) (tCons (tTupN tNil) (tCons (tC .non) (tCons (tTupN (tCons (tVar 1) tNil)) (tCons (tLstN (tCons (tVar 1) tNil)) (tCons (tTupN (tCons (tTupN tNil) (tCons (tTupN tNil) tNil))) (tCons (tC (.int 7)) tNil)))))))) (tCall s_law_draw [] E0 (tCons (tVar 0) (tCons (tC (.int 7)) tNil)))))) tNext)
  (tSeq (tIfS (tTest (tOp (rEqG K) (tCall s_law_draw [] E0 (tCons (tVar 0) (tCons (tC (.int 3)) tNil))) (tC (.int 0)))) (tRet (tTupN (tCons (tCall s_law_bent_row [] E0 (tCons (tVar 0) (tCons (tIxG K w (tVar 1) (tC (.int 0))) (tCons (tVar 2) tNil)))) (tCons (tIxG K w (tVar 1) (tC (.int 1))) tNil)))) tNext)
  (tSeq (tIfS (tOr (tTest (tOp (rEqT K) (tIxG K w (tVar 1) (tC (.int 1))) (tTupN tNil))) (tTest (tOp (rEqG K) (tCall s_law_draw [] E0 (tCons (tVar 0) (tCons (tC (.int 4)) tNil))) (tC (.int 0))))) (tRet (tTupN (tCons (tIxG K w (tVar 1) (tC (.int 0))) (tCons (tCall s_law_bent_row [] E0 (tCons (tVar 0) (tCons (tIxG K w (tVar 1) (tC (.int 1))) (tCons (tVar 2) tNil)))) tNil)))) tNext)
  (tSeq (tAsg (tCall s_law_draw [] E0 (tCons (tVar 0) (tCons (tCB (rLenG K) (tCons (tIxG K w (tVar 1) (tC (.int 1))) tNil)) tNil))) (gName 4))
  (tRet (tTupN (tCons (tIxG K w (tVar 1) (tC (.int 0))) (tCons (tOp (rAddG K) (tOp (rAddG K) (tSl (rSlG K) (tIxG K w (tVar 1) (tC (.int 1))) tNoPart (tPart (tVar 4))) (tTupN (tCons (tCall s_law_bent_row [] E0 (tCons (tVar 0) (tCons (tIxG K w (tIxG K w (tVar 1) (tC (.int 1))) (tVar 4)) (tCons (tVar 2) tNil)))) tNil))) (tSl (rSlG K) (tIxG K w (tVar 1) (tC (.int 1))) (tPart (tOp (rAddG K) (tVar 4) (tC (.int 1)))) tNoPart)) tNil))))))))
def t_law (K : PySem.W.Frag) (w : World) (s_law_pen : Sp) (s_law_cells : Sp) (s_law_reached : Sp) (s_law_way : Sp) (s_law_bent_paper : Sp) (s_lets_sweep : Sp) (s_law_same : Sp) (s_law_paper_right : Sp) (s_law_draw : Sp) : TS :=
  (tSeq (tAsg (tCall s_law_pen [] E0 (tCons (tVar 0) tNil)) (gName 1))
  (tSeq (tFor (iRng1 (tCons (tC (.int 4)) tNil)) (gName 2) (tSeq (tAsg (tCall s_law_cells [] E0 (tCons (tVar 1) tNil)) (gTup K 2 (gCons (gName 3) (gCons (gName 4) gNil))))
  (tSeq (tAsg (tCB (rSortG w) (tCons (tVar 3) tNil)) (gName 5))
  (tSeq (tAsg (tCB (rTupleG K) (tCons (tCB (rSortG w) (tCons (tCall s_law_reached [] E0 (tCons (tVar 3) (tCons (tVar 4) tNil))) tNil)) tNil)) (gName 6))
  (tSeq (tAsg (tTupN (tCons (tVar 6) (tCons (tCB (rTupleG K) (tCons (tLc (iSeq K (tVar 6)) (gName 8) tYes (tCall s_law_way [] E0 (tCons (tVar 3) (tCons (tVar 4) (tCons (tVar 8) tNil)))) [8]) tNil)) tNil))) (gName 7))
  (tSeq (tAsg (tTupN (tCons (tCB rDictG (tCons (tVar 3) tNil)) (tCons (tCB (rListG K) (tCons (tVar 4) tNil)) tNil))) (gName 9))
  (tSeq (tAsg (tCall s_law_bent_paper [] E0 (tCons (tVar 1) (tCons (tVar 7) (tCons (tVar 5) tNil)))) (gName 10))
  (tFor (iSeq K (tLstN (tCons (tVar 7) (tCons (tVar 10) (tCons (tIxG K w (tLstN (tCons (tCall s_law_bent_paper [] E0 (tCons (tVar 1) (tCons (tVar 10) (tCons (tVar 5) tNil)))) (tCons (tVar 10) tNil))) (tCB rIntG (tCons (tNotT K (tCB (rIsiG K) (tCons (tVar 10) (tCons (tC (.ty "tuple")) tNil)))) tNil))) tNil))))) (gName 11) (tSeq (tAsg (tCall s_lets_sweep [] E0 (tCons (tIxG K w (tVar 9) (tC (.int 0))) (tCons (tIxG K w (tVar 9) (tC (.int 1))) (tCons (tVar 11) tNil)))) (gName 12))
  (tIfS (tOr (tNot (tTru K (tCall s_law_same [] E0 (tCons (tVar 12) (tCons (tCall s_law_paper_right [] E0 (tCons (tVar 3) (tCons (tVar 4) (tCons (tVar 11) tNil)))) tNil))))) (tTest (tOp (rNeH K) (tVar 9) (tTupN (tCons (tVar 3) (tCons (tVar 4) tNil)))))) (tRet (tC (.bl false))) tNext))))))))))
  (tRet (tOp (rIsG false) (tCall s_lets_sweep [] E0 (tCons (tVar 3) (tCons (tVar 4) (tCons (tIxG K w (tLstN (tCons (tVar 4) (tCons (tLstN tNil) (tCons (tC .non) (tCons (tC (.str "paper")) (tCons (tC (.int 0)) tNil)))))) (tCall s_law_draw [] E0 (tCons (tVar 1) (tCons (tC (.int 5)) tNil)))) tNil)))) (tC (.bl false))))))
/-! ### the draws -/
theorem pen_ne {H : Hp} {pen L : Addr} {ns : List Int} {i j : Int} (hp : H pen = some (.lst [.ref L, .int i, .int j])) (hL : H L = some (.lst (ns.map V.int))) : L ≠ pen := by
  rintro rfl
  rw [hL] at hp
  have := congrArg (fun o => match o with | some (HO.lst (x :: _)) => (match x with | .ref _ => true | _ => false) | _ => false) hp
  cases ns <;> simp at this
/-- a pen: the script's list L, the turn, what is left of a great number -/
def PenAt (H : Hp) (pen L : Addr) : Prop := ∃ (ns : List Int) (at_ rest : Int), H pen = some (.lst [.ref L, .int at_, .int rest]) ∧ H L = some (.lst (ns.map V.int)) ∧ 0 ≤ at_ ∧ 0 ≤ rest ∧ ns.length ≤ 63
section
variable {H H' : Hp} {pen L d : Addr}
theorem PenAt.same (h : PenAt H pen L) (s : Same H H') : PenAt H' pen L := by
  obtain ⟨ns, a, r, hp, hL, x⟩ := h
  exact ⟨ns, a, r, s _ _ hp, s _ _ hL, x⟩
/-- a pen stays where another object changes -/
theorem PenAt.chg (h : PenAt H pen L) (c : Chg d H H') (n1 : pen ≠ d) (n2 : L ≠ d) : PenAt H' pen L := by
  obtain ⟨ns, a, r, hp, hL, x⟩ := h
  exact ⟨ns, a, r, c _ _ n1 hp, c _ _ n2 hL, x⟩
theorem PenAt.ne (h : PenAt H pen L) (hd : H d = none) : pen ≠ d ∧ L ≠ d := by
  obtain ⟨ns, a, r, hp, hL, x⟩ := h
  exact ⟨ne_of_none hp hd, ne_of_none hL hd⟩
end
def spDraw : Sp := fun vs H Q _ => ∃ (pen L : Addr) (many : Int), vs = [.ref pen, .int many] ∧ PenAt H pen L ∧ 0 < many ∧ many.natAbs < 2 ^ 250 ∧
  ∀ (v : Int) (H' : Hp), 0 ≤ v → v < many → PenAt H' pen L → Chg pen H H' → Q (.int v) H'
theorem g_draw {H : Hp} {Q : VK} {E : XK} {pen L : Addr} {many : Int} (h : PenAt H pen L) (h0 : 0 < many) (h1 : many.natAbs < 2 ^ 250) (q : ∀ (v : Int) (H' : Hp), 0 ≤ v → v < many → PenAt H' pen L → Chg pen H H' → Q (.int v) H') :
    spDraw ([.ref pen, .int many] ++ []) H Q E := ⟨pen, L, many, rfl, h, h0, h1, q⟩
theorem pure_draw {K : PySem.W.Frag} {w : World} : PureOk 2 spDraw (t_law_draw K w) 7 := by
  refine ⟨fun vs H Q E ⟨pen, L, many, e, _⟩ => by rw [e]; rfl, ?_⟩
  rintro vs H Q E ⟨pen, L, many, rfl, ⟨ns, at_, rest, hp, hL, h0, h1, hl⟩, hm, hmb, q'⟩
  have hne : L ≠ pen := pen_ne hp hL
  have q : ∀ (v a' r' : Int) (H' : Hp), 0 ≤ v → v < many → 0 ≤ a' → 0 ≤ r' → H' pen = some (.lst [.ref L, .int a', .int r']) → Chg pen H H' → Q (.int v) H' :=
    fun v a' r' H' v0 v1 a0 r0 e c => q' v H' v0 v1 ⟨ns, a', r', e, c L _ hne hL, a0, r0, hl⟩ c
  have hdw : ∀ x, CDivW x many := fun x => wide_div hm hmb (by decide) (by decide)
  have mod0 : ∀ x : Int, 0 ≤ x % many := fun x => Int.emod_nonneg x (Int.ne_of_gt hm)
  have mod1 : ∀ x : Int, x % many < many := fun x => Int.emod_lt_of_pos x hm
  show t_law_draw K w _ [some (.ref pen), some (.int many), none, none, none, none, none] H
  unfold t_law_draw
  walk_at "go"
  refine g_ite (fun hr => ?_) (fun _ => ?_)
  · walk_at "go"
    refine g_modI hm ?_
    walk_at "go"
    refine g_divI (hdw _) ?_
    walk_at "go"
    refine g_setL hp rfl fun H' e1 c1 => ?_
    walk_at "go"
    exact q _ at_ (rest / many) H' (mod0 _) (mod1 _) h0 (Int.ediv_nonneg h1 (Int.le_of_lt hm)) e1 c1
  · walk_at "go"
    refine g_setL hp rfl fun H1 e1 c1 => ?_
    have hL1 := c1 L _ hne hL
    walk_at "go"
    intro p H2 np e2 s2
    have hL2 := s2 _ _ hL1
    have hp2 := s2 _ _ e1
    walk_at "go"
    refine g_addL hL2 e2 (by show _ ≤ 16777216; simp; omega) fun p' H3 np' e3 s3 => ?_
    have hL3 := s3 _ _ hL2
    have hp3 := s3 _ _ hp2
    walk_at "go"
    refine g_lenL (.of hL3) ?_
    walk_at "go"
    refine g_modI (by omega) ?_
    have hat : ∃ c : Int, atI (List.map V.int ns ++ [V.int 7]) (at_ % max 1 ((List.map V.int ns).length : Int)) = some (.int c) := by
      have a0 := Int.emod_nonneg at_ (b := max 1 ((List.map V.int ns).length : Int)) (by omega)
      have a1 := Int.emod_lt_of_pos at_ (b := max 1 ((List.map V.int ns).length : Int)) (by omega)
      obtain ⟨v, h1, h2, _⟩ := atI_in (xs := List.map V.int ns ++ [V.int 7]) a0 (by rw [List.length_append, List.length_singleton]; omega)
      rw [List.mem_append, List.mem_map] at h2
      rcases h2 with ⟨c, _, rfl⟩ | h2
      · exact ⟨c, h1⟩
      · rw [List.mem_singleton] at h2
        exact ⟨7, h2 ▸ h1⟩
    obtain ⟨c, hc⟩ := hat
    refine g_ixL (.of e3) hc ?_
    walk_at "go"
    refine g_lenL (.of hL3) ?_
    walk_at "go"
    refine g_cut (B := ?B) ?f ?b
    case f =>
      intro tail
      refine g_ite (fun _ => ?_) (fun _ => ?_)
      · walk_at "go"
        refine g_powI ⟨by decide, by decide, by decide⟩ ?_
        walk_at "go"
        refine g_ite (fun hbig => ?_) (fun _ => ?_)
        · walk_at "go"
          refine g_divI (hdw _) ?_
          walk_at "go"
          refine g_setL hp3 rfl fun H4 e4 c4 => ?_
          walk_at "go"
          refine g_modI hm ?_
          exact q _ (at_ + 1) (c.natAbs / many) H4 (mod0 _) (mod1 _) (by omega) (Int.ediv_nonneg (by omega) (Int.le_of_lt hm)) e4 ((c1.trans (.same s2)).trans ((Chg.same s3).trans c4))
        · exact tail.out
      · refine g_F rfl ?_
        exact tail.out
    case b =>
      walk_at "go"
      intro p4 H4 np4 e4 s4
      walk_at "go"
      refine g_modI (by decide) ?_
      obtain ⟨pr, hpr, hmem⟩ : ∃ pr : Int, atI [V.int 2147483647, V.int 2147483629, V.int 2147483587, V.int 2147483579, V.int 2147483563, V.int 2147483549, V.int 2147483543] (at_ % 7) = some (.int pr) ∧ 0 < pr ∧ pr < 2 ^ 31 := by
        obtain ⟨v, h1, h2, _⟩ := atI_in (xs := [V.int 2147483647, V.int 2147483629, V.int 2147483587, V.int 2147483579, V.int 2147483563, V.int 2147483549, V.int 2147483543]) (Int.emod_nonneg at_ (by decide)) (Int.emod_lt_of_pos at_ (b := 7) (by decide))
        simp only [List.mem_cons, List.not_mem_nil, or_false] at h2
        rcases h2 with rfl | rfl | rfl | rfl | rfl | rfl | rfl <;> exact ⟨_, h1, by decide, by decide⟩
      refine g_ixL (.of e4) hpr ?_
      walk_at "go"
      refine g_modI (by decide) ?_
      walk_at "go"
      refine g_mulI (.inl ⟨by decide, by decide⟩) ?_
      walk_at "go"
      refine g_mulI (.inr ⟨by decide, by decide⟩) ?_
      walk_at "go"
      refine g_modI hmem.1 ?_
      have x0 := Int.emod_nonneg ((c % 2147483497 + 69621 * at_ + 13) * 48271) (Int.ne_of_gt hmem.1)
      have x1 := Int.emod_lt_of_pos ((c % 2147483497 + 69621 * at_ + 13) * 48271) hmem.1
      generalize (c % 2147483497 + 69621 * at_ + 13) * 48271 % pr = x at x0 x1
      walk_at "go"
      refine g_mulI (.inl ⟨by omega, by omega⟩) ?_
      walk_at "go"
      refine g_mulI (.inl ⟨by decide, by decide⟩) ?_
      walk_at "go"
      refine g_modI (by decide) ?_
      have y0 := Int.emod_nonneg (x * x + 40692 * x + at_) (b := 2147483489) (by decide)
      have y1 := Int.emod_lt_of_pos (x * x + 40692 * x + at_) (b := 2147483489) (by decide)
      generalize (x * x + 40692 * x + at_) % 2147483489 = y at y0 y1
      walk_at "go"
      refine g_mulI (.inl ⟨by omega, by omega⟩) ?_
      walk_at "go"
      refine g_modI (by decide) ?_
      have z0 := Int.emod_nonneg (y * 16807) (b := 2147483477) (by decide)
      have z1 := Int.emod_lt_of_pos (y * 16807) (b := 2147483477) (by decide)
      generalize y * 16807 % 2147483477 = z at z0 z1
      have fin : ∀ u : Int, Q (.int (u / 32 % many)) H4 := fun u =>
        q _ (at_ + 1) rest H4 (mod0 _) (mod1 _) (by omega) h1 (s4 _ _ hp3) ((c1.trans (.same s2)).trans ((Chg.same s3).trans (.same s4)))
      walk_at "go"
      refine g_divI ⟨by decide, by decide⟩ ?_
      walk_at "go"
      exact g_modI hm (fin _)


/-! ### names -/
open SX in
/-- the k-th name: the word with another letter at a place -/
def nameK (cs : List Nat) (at_ first by_ k : Nat) : Str := SX.S (cs.take at_ ++ [97 + (first + by_ * k) % 26] ++ cs.drop (at_ + 1))
def spNames : Sp := fun vs H Q _ => ∃ (pen L : Addr) (many : Int), vs = [.ref pen, .int many] ∧ PenAt H pen L ∧ 0 ≤ many ∧ many ≤ 26 ∧
  ∀ (d : Addr) (ss : List Str) (H' : Hp), (ss.length : Int) = many → (∀ s ∈ ss, isName s) → ss.Nodup → H d = none → H' d = some (.lst (ss.map V.str)) → PenAt H' pen L → Chg pen H H' → Q (.ref d) H'

/-! ### pens, numbers -/
def spPen (K : PySem.W.Frag) : Sp := fun vs H Q _ => ∃ (a : Addr) (ns : List Int), vs = [.ref a] ∧ SqL K H a (ns.map V.int) ∧ ns.length ≤ 63 ∧ ∀ (pen L : Addr) (H' : Hp), H pen = none → H L = none → PenAt H' pen L → Same H H' → Q (.ref pen) H'
theorem pure_pen {K : PySem.W.Frag} {w : World} : PureOk 1 (spPen K) (t_law_pen K w) 1 := by
  refine ⟨fun vs H Q E ⟨a, ns, e, _⟩ => by rw [e]; rfl, ?_⟩
  rintro vs H Q E ⟨a, ns, rfl, hS, hl, q⟩
  show t_law_pen K w _ [some (.ref a)] H
  unfold t_law_pen
  walk_at "go"
  refine g_slL hS fun p1 H1 n1 e1 s1 => ?_
  walk_at "go"
  refine g_listL (.of e1) fun p2 H2 n2 e2 s2 => ?_
  walk_at "go"
  intro p3 H3 n3 e3 s3
  have ec : cutV (ns.map V.int) none (some 63) = ns.map V.int := by
    unfold cutV
    rw [HT.sIx_none, show (63 : Int) = ((63 : Nat) : Int) from rfl, HT.sIx_nat, List.length_map, Nat.min_eq_right hl]
    show (ns.map V.int).take ns.length = _
    rw [List.take_of_length_le (by rw [List.length_map]; exact Nat.le_refl _)]
  rw [ec] at e2
  refine q p3 p2 H3 (s1.free (s2.free n3)) (s1.free n2) ⟨ns, 0, 0, e3, s3 _ _ e2, by decide, by decide, hl⟩ (s1.trans (s2.trans s3))

def spNumber : Sp := fun vs H Q _ => ∃ (pen L : Addr), vs = [.ref pen] ∧ PenAt H pen L ∧ ∀ (n : Int) (H' : Hp), n.natAbs < 10 ^ 60 → PenAt H' pen L → Chg pen H H' → Q (.int n) H'

/-! ### drawing parts: the state -/
/-- what may change while a part is drawn -/
structure Fix (pen left stock b : Addr) : Prop where
  p : b ≠ pen
  l : b ≠ left
  s : b ≠ stock
def Chg3 (pen left stock : Addr) (H H' : Hp) : Prop := ∀ b o, Fix pen left stock b → H b = some o → H' b = some o
structure RoomAt (H : Hp) (pen L left stock : Addr) (n : Int) (st : List Str) : Prop where
  pe : PenAt H pen L
  le : H left = some (.lst [.int n])
  sk : H stock = some (.lst (st.map V.str))
  lp : left ≠ pen
  lL : left ≠ L
  sp : stock ≠ pen
  sL : stock ≠ L
  ls : left ≠ stock
section
variable {H H' H1 : Hp} {pen L left stock b : Addr} {n : Int} {st : List Str}
theorem Chg3.refl : Chg3 pen left stock H H := fun _ _ _ e => e
theorem Chg3.trans (h : Chg3 pen left stock H H1) (h' : Chg3 pen left stock H1 H') : Chg3 pen left stock H H' := fun b o f e => h' b o f (h b o f e)
theorem Chg3.ofp (h : Chg pen H H') : Chg3 pen left stock H H' := fun b o f e => h b o f.p e
theorem Chg3.same (h : Same H H') : Chg3 pen left stock H H' := fun b o _ e => h b o e
theorem RoomAt.new (r : RoomAt H pen L left stock n st) (hb : H b = none) : Fix pen left stock b :=
  ⟨fun e => (by obtain ⟨ns, a, x, hp, _⟩ := r.pe; rw [e, hp] at hb; cases hb), fun e => (by have := r.le; rw [← e, hb] at this; cases this), fun e => (by have := r.sk; rw [← e, hb] at this; cases this)⟩
theorem RoomAt.same (r : RoomAt H pen L left stock n st) (s : Same H H') : RoomAt H' pen L left stock n st :=
  ⟨r.pe.same s, s _ _ r.le, s _ _ r.sk, r.lp, r.lL, r.sp, r.sL, r.ls⟩
theorem RoomAt.draw (r : RoomAt H pen L left stock n st) (h : PenAt H' pen L) (c : Chg pen H H') : RoomAt H' pen L left stock n st :=
  ⟨h, c _ _ r.lp r.le, c _ _ r.sp r.sk, r.lp, r.lL, r.sp, r.sL, r.ls⟩
/-- another object changes -/
theorem RoomAt.chg (r : RoomAt H pen L left stock n st) (c : Chg b H H') (f : Fix pen left stock b) (fL : L ≠ b) : RoomAt H' pen L left stock n st :=
  ⟨r.pe.chg c f.p.symm fL, c _ _ f.l.symm r.le, c _ _ f.s.symm r.sk, r.lp, r.lL, r.sp, r.sL, r.ls⟩
theorem RoomAt.tk {m : Int} {su : List Str} (r : RoomAt H pen L left stock n st) (c : Chg3 pen left stock H H') (r' : RoomAt H' pen L left stock m su) : Tk H H' := fun b xs e => c b _
  ⟨fun z => (by obtain ⟨ns, a, x, hp, _⟩ := r.pe; rw [z, hp] at e; cases e), fun z => (by rw [z, r.le] at e; cases e), fun z => (by rw [z, r.sk] at e; cases e)⟩ e
end
/-- the functions that a part may name, with how many things they want -/
def WorldAt (H : Hp) (world : Addr) (W : List (Str × Nat)) : Prop := ∃ xs, H world = some (.lst xs) ∧ Tps H xs (W.map fun q => .tuple [.str q.1, .int q.2])
def WorldOk (W : List (Str × Nat)) : Prop := W.length ≤ 8 ∧ ∀ q ∈ W, isName q.1 ∧ q.2 ≤ 4
theorem WorldAt.mono {H H' : Hp} {world : Addr} {W : List (Str × Nat)} (h : WorldAt H world W) (k : Tk H H') (c : ∀ o, H world = some o → H' world = some o) : WorldAt H' world W := by
  obtain ⟨xs, e, t⟩ := h
  exact ⟨xs, c _ e, t.mono k⟩
/-- all that a part's drawing leans on -/
structure GenAt (H : Hp) (pen L world scope left stock : Addr) (W : List (Str × Nat)) (sc : List Str) (n : Int) (st : List Str) : Prop where
  r : RoomAt H pen L left stock n st
  w : WorldAt H world W
  gsc : H scope = some (.lst (sc.map V.str))
  fw : Fix pen left stock world
  fs : Fix pen left stock scope
section
variable {H H' H1 : Hp} {pen L world scope left stock b : Addr} {W : List (Str × Nat)} {sc : List Str} {n : Int} {st : List Str}
theorem GenAt.same (g : GenAt H pen L world scope left stock W sc n st) (s : Same H H') : GenAt H' pen L world scope left stock W sc n st :=
  ⟨g.r.same s, g.w.mono (Same.tk s) (fun o e => s _ _ e), s _ _ g.gsc, g.fw, g.fs⟩
/-- behind anything that keeps all but the three -/
theorem GenAt.go {m : Int} {su : List Str} (g : GenAt H pen L world scope left stock W sc n st) (r' : RoomAt H' pen L left stock m su) (c : Chg3 pen left stock H H') : GenAt H' pen L world scope left stock W sc m su :=
  ⟨r', g.w.mono (g.r.tk c r') (fun o e => c _ _ g.fw e), c _ _ g.fs g.gsc, g.fw, g.fs⟩
theorem GenAt.draw (g : GenAt H pen L world scope left stock W sc n st) (h : PenAt H' pen L) (c : Chg pen H H') : GenAt H' pen L world scope left stock W sc n st :=
  g.go (g.r.draw h c) (.ofp c)
end
/-- the names that stand and may come: all unlike, few -/
structure NamesOk (sc st : List Str) : Prop where
  nsc : ∀ x ∈ sc, isName x
  nst : ∀ x ∈ st, isName x
  nd : st.Nodup
  few : sc.length + st.length ≤ 60
/-- what comes of a drawn part -/
structure PartOut (fs sc : List Str) (d : Nat) (n : Int) (st : List Str) (p : Part) (n' : Int) (st' : List Str) : Prop where
  ok : p.ok fs sc
  deep : p.deep ≤ d
  size : (p.size : Int) + n' ≤ 1 + n
  left : 0 ≤ n'
  names : ∃ u, st = st' ++ u ∧ p.rowNames.Nodup ∧ ∀ x ∈ p.rowNames, x ∈ u
/-! ### a leaf -/
def spLeaf : Sp := fun vs H Q _ => ∃ (pen L world scope left stock : Addr) (W : List (Str × Nat)) (sc : List Str) (n : Int) (st : List Str) (want : Str), vs = [.ref pen, .ref world, .ref scope, .str want] ∧
  GenAt H pen L world scope left stock W sc n st ∧ WorldOk W ∧ NamesOk sc st ∧ 0 ≤ n ∧
  ∀ (v : V) (p : Part) (H' : Hp), Tp H' v p.data → GenAt H' pen L world scope left stock W sc n st → PartOut (W.map (·.1)) sc 1 n st p n st → Chg3 pen left stock H H' → Q v H'
/-! ### names that are used up -/
def Used (st st' A : List Str) : Prop := ∃ u, st = st' ++ u ∧ A.Nodup ∧ ∀ x ∈ A, x ∈ u
section
variable {st st1 st2 A B : List Str}
theorem Used.refl : Used st st [] := ⟨[], by simp, List.nodup_nil, by simp⟩
theorem Used.left (h : Used st st1 A) : Used st st1 [] := by
  obtain ⟨u, e, _, _⟩ := h
  exact ⟨u, e, List.nodup_nil, by simp⟩
theorem Used.snd (h : Used st st1 A) (h2 : Used st1 st2 B) : Used st st2 B := by
  obtain ⟨u, rfl, n1, s1⟩ := h
  obtain ⟨v, rfl, n2, s2⟩ := h2
  exact ⟨v ++ u, by simp, n2, fun x hx => List.mem_append.mpr (.inl (s2 x hx))⟩
theorem Used.len (h : Used st st1 A) : st1.length ≤ st.length := by
  obtain ⟨u, rfl, _, _⟩ := h
  rw [List.length_append]
  omega
theorem NamesOk.go {sc : List Str} (n : NamesOk sc st) (h : Used st st1 A) : NamesOk sc st1 := by
  obtain ⟨u, rfl, _, _⟩ := h
  exact ⟨n.nsc, fun x hx => n.nst x (List.mem_append.mpr (.inl hx)), (List.nodup_append.mp n.nd).1, by have := n.few; rw [List.length_append] at this; omega⟩
end
/-! ### room -/
def RoomL (H : Hp) (room left stock : Addr) (D : Int) : Prop := H room = some (.lst [.int D, .ref left, .ref stock])
def spFits : Sp := fun vs H Q _ => ∃ (pen L room left stock : Addr) (D n many : Int) (st : List Str), vs = [.ref room, .int many] ∧ RoomAt H pen L left stock n st ∧ RoomL H room left stock D ∧
  (n < many → Q (.bl false) H) ∧ (many ≤ n → ∀ H', RoomAt H' pen L left stock (n - many) st → Chg left H H' → Q (.bl true) H')
/-! ### parts, calls, lets: what they lean on, what they tell -/
structure PartPre (H : Hp) (pen L world scope room left stock : Addr) (W : List (Str × Nat)) (sc : List Str) (D n : Int) (st : List Str) (want : Str) : Prop where
  g : GenAt H pen L world scope left stock W sc n st
  w : WorldOk W
  nm : NamesOk sc st
  n0 : 0 ≤ n
  rm : RoomL H room left stock D
  fr : Fix pen left stock room
  d0 : 0 ≤ D
  wt : want ∈ [("number" : Str), "pair", "any"]
def PartPost (H : Hp) (pen L world scope left stock : Addr) (W : List (Str × Nat)) (sc : List Str) (d : Nat) (n : Int) (st : List Str) (Q : VK) : Prop :=
  ∀ (v : V) (p : Part) (n' : Int) (st' : List Str) (H' : Hp), Tp H' v p.data → GenAt H' pen L world scope left stock W sc n' st' → PartOut (W.map (·.1)) sc d n st p n' st' → Chg3 pen left stock H H' → Q v H'
def spPart (m : Nat) : Sp := fun vs H Q _ => ∃ (pen L world scope room left stock : Addr) (W : List (Str × Nat)) (sc : List Str) (D n : Int) (st : List Str) (want : Str), vs = [.ref pen, .ref world, .ref scope, .ref room, .str want] ∧
  PartPre H pen L world scope room left stock W sc D n st want ∧ D.toNat < m ∧ PartPost H pen L world scope left stock W sc (D.toNat + 1) n st Q
/-- a let's, its room one less deep -/
def spLet (m : Nat) : Sp := fun vs H Q _ => ∃ (pen L world scope room left stock : Addr) (W : List (Str × Nat)) (sc : List Str) (D n : Int) (st : List Str) (want : Str), vs = [.ref pen, .ref world, .ref scope, .ref room, .str want] ∧
  PartPre H pen L world scope room left stock W sc D n st want ∧ D.toNat < m ∧ PartPost H pen L world scope left stock W sc (D.toNat + 2) n st Q
def spCallP (m : Nat) : Sp := fun vs H Q _ => ∃ (pen L world scope room left stock : Addr) (W : List (Str × Nat)) (sc : List Str) (D n : Int) (st : List Str) (want : Str), vs = [.ref pen, .ref world, .ref scope, .ref room, .str want] ∧
  PartPre H pen L world scope room left stock W sc D n st want ∧ D.toNat < m ∧ 5 ≤ D ∧ W ≠ [] ∧ PartPost H pen L world scope left stock W sc (D.toNat + 2) n st Q
theorem PartOut.leaf {fs sc : List Str} {d : Nat} {n n1 : Int} {st st' : List Str} {p : Part} (h : PartOut fs sc 1 n st p n1 st') (hd : 1 ≤ d) : PartOut fs sc d n st p n1 st' := ⟨h.ok, Nat.le_trans h.deep hd, h.size, h.left, h.names⟩
section
variable {H H' : Hp} {pen L world scope room left stock : Addr} {W : List (Str × Nat)} {sc : List Str} {D n : Int} {st : List Str} {want : Str}
theorem PartPre.go {n' : Int} {st' A : List Str} (h : PartPre H pen L world scope room left stock W sc D n st want) (g : GenAt H' pen L world scope left stock W sc n' st') (c : Chg3 pen left stock H H') (u : Used st st' A) (h0 : 0 ≤ n') :
    PartPre H' pen L world scope room left stock W sc D n' st' want := ⟨g, h.w, h.nm.go u, h0, c _ _ h.fr h.rm, h.fr, h.d0, h.wt⟩
end

section
variable {H H' : Hp} {pen L world scope left stock d : Addr} {W : List (Str × Nat)} {sc : List Str} {n : Int} {st : List Str}
/-- another list changes -/
theorem GenAt.oth {ys : List V} (g : GenAt H pen L world scope left stock W sc n st) (c : Chg d H H') (f : Fix pen left stock d) (fL : L ≠ d) (fw : world ≠ d) (fs : scope ≠ d) (hl : H d = some (.lst ys)) : GenAt H' pen L world scope left stock W sc n st :=
  ⟨g.r.chg c f fL, g.w.mono (c.tkl hl) (fun o e => c _ _ fw e), c _ _ fs g.gsc, g.fw, g.fs⟩
theorem GenAt.free (g : GenAt H pen L world scope left stock W sc n st) (h : H d = none) : Fix pen left stock d ∧ L ≠ d ∧ world ≠ d ∧ scope ≠ d := by
  obtain ⟨xs, hw, _⟩ := g.w
  obtain ⟨ns, a, r, hp, hL, _⟩ := g.r.pe
  exact ⟨g.r.new h, ne_of_none hL h, ne_of_none hw h, ne_of_none g.gsc h⟩
end

/-! ### a part by its word -/
def kinds7 : List Str := ["op", "when", "side", "let", "call", "leaf", "pair"]
def words0 : List (Key × V) := mergeK [] [(.inr "number", .str "op op op op op op when when side let call call call call leaf leaf")]
def words1 : List (Key × V) := putK words0 (.inr "pair") (.str "pair pair pair pair when when side side let let call call call op leaf pair")
def words2 : List (Key × V) := putK words1 (.inr "any") (.str "op op pair pair pair when when side side let let call call call leaf leaf")
def wordsOf (x : Str) : Str := match valV words2 (Sum.inr x) with
  | some (.str s) => s
  | _ => ""
def kv4 : List (Key × V) := [(.inr "side", .int 1), (.inr "pair", .int 2), (.inr "when", .int 3), (.inr "op", .int 2)]

/-! ### a loop -/
structure LoopPre (H : Hp) (pen L world scope room left stock : Addr) (W : List (Str × Nat)) (me : Str) (sc : List Str) (n : Int) (st : List Str) : Prop where
  g : GenAt H pen L world scope left stock W sc n st
  w : WorldOk W
  nm : NamesOk sc st
  n0 : 0 ≤ n
  rm : ∃ D : Int, H room = some (.lst [.int D, .ref left, .ref stock])
  fr : Fix pen left stock room
  me : me ∈ W.map (·.1)
  sc0 : sc ≠ []
  sc4 : sc.length ≤ 4
def spLoop : Sp := fun vs H Q _ => ∃ (pen L world scope room left stock : Addr) (W : List (Str × Nat)) (me : Str) (sc : List Str) (n : Int) (st : List Str), vs = [.ref pen, .ref world, .str me, .ref scope, .ref room] ∧
  LoopPre H pen L world scope room left stock W me sc n st ∧
  ∀ (v : V) (p : Part) (n' : Int) (st' : List Str) (H' : Hp), Tp H' v p.data → GenAt H' pen L world scope left stock W sc n' st' → p.ok (W.map (·.1)) sc → p.deep ≤ 8 → (p.size : Int) + n' ≤ 16 + n → 0 ≤ n' → Used st st' p.rowNames → Chg3 pen left stock H H' → Q v H'

/-! ### a body -/
structure BodyAt (H : Hp) (pen L world scope stock : Addr) (W : List (Str × Nat)) (sc st : List Str) : Prop where
  pe : PenAt H pen L
  w : WorldAt H world W
  gsc : H scope = some (.lst (sc.map V.str))
  sk : H stock = some (.lst (st.map V.str))
  wp : world ≠ pen
  ws : world ≠ stock
  cp : scope ≠ pen
  cs : scope ≠ stock
  sp : stock ≠ pen
  sL : stock ≠ L
structure BodyOk (W : List (Str × Nat)) (me : Str) (sc st : List Str) : Prop where
  w : WorldOk W
  nm : NamesOk sc st
  me : me = "" ∨ me ∈ W.map (·.1)
  sc4 : sc.length ≤ 4
/-- all but the pen and the stock stay -/
def Chg2 (pen stock : Addr) (H H' : Hp) : Prop := ∀ b o, b ≠ pen → b ≠ stock → H b = some o → H' b = some o
section
variable {H H' H1 H2 : Hp} {pen L world scope stock l rm : Addr} {W : List (Str × Nat)} {me : Str} {sc st : List Str} {n D : Int}
theorem BodyAt.same (h : BodyAt H pen L world scope stock W sc st) (s : Same H H') : BodyAt H' pen L world scope stock W sc st :=
  ⟨h.pe.same s, h.w.mono (Same.tk s) (fun o e => s _ _ e), s _ _ h.gsc, s _ _ h.sk, h.wp, h.ws, h.cp, h.cs, h.sp, h.sL⟩
theorem PenAt.tk (h : PenAt H pen L) (c : Chg pen H H') : Tk H H' := by
  obtain ⟨ns, a, r, hp, _⟩ := h
  exact c.tkl hp
theorem BodyAt.draw (h : BodyAt H pen L world scope stock W sc st) (p : PenAt H' pen L) (c : Chg pen H H') : BodyAt H' pen L world scope stock W sc st :=
  ⟨p, h.w.mono (h.pe.tk c) (fun o e => c _ _ h.wp e), c _ _ h.cp h.gsc, c _ _ h.sp h.sk, h.wp, h.ws, h.cp, h.cs, h.sp, h.sL⟩
end
def spBody : Sp := fun vs H Q _ => ∃ (pen L world scope stock : Addr) (W : List (Str × Nat)) (me : Str) (sc st : List Str), vs = [.ref pen, .ref world, .str me, .ref scope, .ref stock] ∧ BodyAt H pen L world scope stock W sc st ∧ BodyOk W me sc st ∧
  ∀ (v : V) (p : Part) (H' : Hp), Tp H' v p.data → PenAt H' pen L → p.ok (W.map (·.1)) sc → p.deep ≤ 12 → p.size ≤ 60 → p.rowNames.Nodup → (∀ x ∈ p.rowNames, x ∈ st) → Chg2 pen stock H H' → Q v H'

/-! ### a program -/
section
variable {K : PySem.W.Frag} {σ : L2.St} {H : Hp} {Q : L2.St → Hp → Prop} {a : Addr} {x y z : V} {i j k : Nat}
theorem g_un2 (h : H a = some (.tup [x, y])) (q : Q ((σ.set i (some x)).set j (some y)) H) : gTup K 2 (gCons (gName i) (gCons (gName j) gNil)) (.ref a) σ H Q :=
  ⟨a, _, rfl, .of h, rfl, x, _, rfl, y, _, rfl, rfl, q⟩
theorem g_un3 (h : H a = some (.tup [x, y, z])) (q : Q (((σ.set i (some x)).set j (some y)).set k (some z)) H) : gTup K 3 (gCons (gName i) (gCons (gName j) (gCons (gName k) gNil))) (.ref a) σ H Q :=
  ⟨a, _, rfl, .of h, rfl, x, _, rfl, y, _, rfl, z, _, rfl, rfl, q⟩
theorem Tp.tup_inv {v : V} {ds : List PyData} (h : Tp H v (.tuple ds)) : ∃ a xs, v = .ref a ∧ H a = some (.tup xs) ∧ Tps H xs ds := by
  cases h with
  | tup e r => exact ⟨_, _, rfl, e, r⟩
theorem Tps.cons_inv {vs : List V} {d : PyData} {ds : List PyData} (h : Tps H vs (d :: ds)) : ∃ v us, vs = v :: us ∧ Tp H v d ∧ Tps H us ds := by
  cases h with
  | cons a b => exact ⟨_, _, rfl, a, b⟩
theorem Tps.nil_inv {vs : List V} (h : Tps H vs []) : vs = [] := by
  cases h
  rfl
theorem Tp.str_inv {v : V} {s : Str} (h : Tp H v (.str s)) : v = .str s := by
  cases h
  rfl
/-- a tuple of two -/
theorem Tp.two {v : V} {d e : PyData} (h : Tp H v (.tuple [d, e])) : ∃ a x y, v = .ref a ∧ H a = some (.tup [x, y]) ∧ Tp H x d ∧ Tp H y e := by
  obtain ⟨a, xs, rfl, h1, h2⟩ := h.tup_inv
  obtain ⟨x, us, rfl, tx, h3⟩ := h2.cons_inv
  obtain ⟨y, us, rfl, ty, h4⟩ := h3.cons_inv
  rw [h4.nil_inv] at h1
  exact ⟨a, x, y, rfl, h1, tx, ty⟩
end
structure Fn1 where
  name : Str
  things : List Str
  body : Part
def Fn1.data (f : Fn1) : PyData := .tuple [.str f.name, .tuple (f.things.map .str), f.body.data]
structure Prog where
  fs : List Fn1
  asked : Part
def Prog.data (P : Prog) : PyData := .tuple [.tuple (P.fs.map Fn1.data), P.asked.data]
def Prog.names (P : Prog) : List Str := P.fs.map (·.name)
structure Part.fine (fs sc : List Str) (p : Part) : Prop where
  ok : p.ok fs sc
  deep : p.deep ≤ 12
  size : p.size ≤ 60
  nd : p.rowNames.Nodup
  un : ∀ x ∈ p.rowNames, isName x ∧ x ∉ sc
structure Fn1.fine (fs : List Str) (f : Fn1) : Prop where
  nm : isName f.name
  few : f.things.length ≤ 4
  nd : f.things.Nodup
  th : ∀ x ∈ f.things, isName x
  body : f.body.fine fs f.things
structure Prog.fine (P : Prog) : Prop where
  few : P.fs.length ≤ 8
  nd : P.names.Nodup
  fs : ∀ f ∈ P.fs, f.fine P.names
  asked : P.asked.fine P.names []
def spProgram : Sp := fun vs H Q _ => ∃ (pen L : Addr), vs = [.ref pen] ∧ PenAt H pen L ∧
  ∀ (v : V) (P : Prog) (H' : Hp), Tp H' v P.data → P.fine → PenAt H' pen L → Chg pen H H' → Q v H'
/-! ### parts within parts -/
section
variable {K : PySem.W.Frag} {w : World} {σ : L2.St} {H : Hp} {Q : VK} {D : Ends} {c : TT} {tb : TS} {d : Addr} {z : Str} {kvs : List (Str × V)}
theorem while_any (Pv : Nat → L2.St → Hp → Prop) (m : Nat) (h0 : Pv m σ H)
    (hs : ∀ m σ H, Pv m σ H → c σ H fun b H1 => if b = true then ∃ N : L2.St → Hp → Prop, (∀ σ' H', N σ' H' → ∃ m', m' < m ∧ Pv m' σ' H') ∧ tb { D with nx := N, ct := N, bk := D.nx } σ H1 else D.nx σ H1) : tWhile c tb D σ H :=
  ⟨Pv, ⟨m, h0⟩, hs⟩
/-- a turn of a while -/
theorem g_turn {Pv : Nat → L2.St → Hp → Prop} {m : Nat} (h : tb { D with nx := fun σ' H' => ∃ m', m' < m ∧ Pv m' σ' H', ct := fun σ' H' => ∃ m', m' < m ∧ Pv m' σ' H', bk := D.nx } σ H) :
    ∃ N : L2.St → Hp → Prop, (∀ σ' H', N σ' H' → ∃ m', m' < m ∧ Pv m' σ' H') ∧ tb { D with nx := N, ct := N, bk := D.nx } σ H := ⟨_, fun _ _ h => h, h⟩
theorem g_inK (T : KTab K w d kvs) {r : Bool} (e : (kvs.find? fun q => decide (q.1 = z)).isSome = r) (q : Q (.bl r) H) : rInG K w false (.str z) (.ref d) H Q :=
  .inr (.inr (.inr ⟨z, d, _, rfl, rfl, T z, by subst e; simpa using q⟩))
end
mutual
/-- all parts of a part, each ahead of what it holds -/
def Part.all : Part → List Part
  | .num n => [.num n]
  | .name x => [.name x]
  | .fn f => [.fn f]
  | .one k a => .one k a :: a.all
  | .two k a b => .two k a b :: (a.all ++ b.all)
  | .whn a b c => .whn a b c :: (a.all ++ (b.all ++ c.all))
  | .letp r a => .letp r a :: (r.all ++ a.all)
  | .shut a => [.shut a]
def Rows.all : Rows → List Part
  | .nil => []
  | .cons _ a r => a.all ++ r.all
end
/-- sums, greatest depths -/
def sz : List Part → Nat
  | [] => 0
  | p :: r => p.size + sz r
def mxd : List Part → Nat
  | [] => 0
  | p :: r => max p.deep (mxd r)
theorem mxd_app : ∀ a b : List Part, mxd (a ++ b) = max (mxd a) (mxd b)
  | [], b => by show mxd b = max 0 (mxd b); omega
  | p :: a, b => by
    show max p.deep (mxd (a ++ b)) = max (max p.deep (mxd a)) (mxd b)
    rw [mxd_app a b]
    omega
theorem Rows.mxd : ∀ r : Rows, r.deep = Lz.mxd r.parts
  | .nil => rfl
  | .cons x a r => by
    show max a.deep r.deep = max a.deep (Lz.mxd r.parts)
    rw [Rows.mxd r]
theorem Part.mxd_kids (p : Part) : p.deep = 1 + mxd p.kids := by
  cases p with
  | letp r a =>
    show 1 + max r.deep a.deep = 1 + mxd (r.parts ++ [a])
    rw [mxd_app, Rows.mxd]
    show _ = 1 + max _ (max a.deep 0)
    omega
  | one k a => show 1 + a.deep = 1 + max a.deep 0; omega
  | two k a b => show 1 + max a.deep b.deep = 1 + max a.deep (max b.deep 0); omega
  | whn a b c => show 1 + max a.deep (max b.deep c.deep) = 1 + max a.deep (max b.deep (max c.deep 0)); omega
  | _ => rfl
theorem mxd_mem {q : Part} : ∀ {a : List Part}, q ∈ a → q.deep ≤ mxd a
  | p :: a, h => by
    show q.deep ≤ max p.deep (mxd a)
    rcases List.mem_cons.mp h with rfl | h
    · omega
    · have := mxd_mem h
      omega
/-! what stands in a program -/
def Part.good (p : Part) : Prop := (∃ fs sc, p.ok fs sc) ∧ p.deep ≤ 12
theorem Rows.ok_parts {fs sc : List Str} : ∀ {r : Rows}, r.ok fs sc → ∀ q ∈ r.parts, q.ok fs sc
  | .cons x a r, h, q, hq => by
    rcases List.mem_cons.mp hq with rfl | hq
    · exact h.1
    · exact Rows.ok_parts h.2 q hq
theorem Part.ok_kids {fs sc : List Str} {p : Part} (h : p.ok fs sc) : ∃ sc', ∀ q ∈ p.kids, q.ok fs sc' := by
  cases p with
  | num n => exact ⟨sc, by simp [Part.kids]⟩
  | name x => exact ⟨sc, by simp [Part.kids]⟩
  | fn f => exact ⟨sc, by simp [Part.kids]⟩
  | one k a => exact ⟨sc, fun q hq => by rw [List.mem_singleton.mp hq]; exact h⟩
  | two k a b =>
    refine ⟨sc, fun q hq => ?_⟩
    simp only [Part.kids, List.mem_cons, List.not_mem_nil, or_false] at hq
    rcases hq with rfl | rfl
    · exact h.1
    · exact h.2
  | whn a b c =>
    refine ⟨sc, fun q hq => ?_⟩
    simp only [Part.kids, List.mem_cons, List.not_mem_nil, or_false] at hq
    rcases hq with rfl | rfl | rfl
    · exact h.1
    · exact h.2.1
    · exact h.2.2
  | letp r a =>
    obtain ⟨_, _, _, h1, h2⟩ := h
    refine ⟨sc ++ r.names, fun q hq => ?_⟩
    rcases List.mem_append.mp hq with hq | hq
    · exact Rows.ok_parts h1 q hq
    · rw [List.mem_singleton.mp hq]
      exact h2
  | shut a => exact h.elim
theorem Part.good.kids {p : Part} (h : p.good) : ∀ q ∈ p.kids, q.good := by
  obtain ⟨⟨fs, sc, h1⟩, h2⟩ := h
  obtain ⟨sc', h3⟩ := Part.ok_kids h1
  have h4 := p.mxd_kids
  exact fun q hq => ⟨⟨fs, sc', h3 q hq⟩, by have := mxd_mem hq; omega⟩
/-- the rows' values -/
theorem Rows.get : ∀ {r : Rows} {i : Nat} {d : PyData}, r.datas[i]? = some d → ∃ x p, r.names[i]? = some x ∧ r.parts[i]? = some p ∧ d = .tuple [.str x, p.data]
  | .nil, i, d, h => by simp [Rows.datas] at h
  | .cons x a r, 0, d, h => by
    have h1 : some (PyData.tuple [.str x, a.data]) = some d := h
    cases h1
    exact ⟨x, a, rfl, rfl, rfl⟩
  | .cons x a r, i + 1, d, h => Rows.get (r := r) h
theorem Rows.len : ∀ r : Rows, r.datas.length = r.parts.length
  | .nil => rfl
  | .cons x a r => congrArg (· + 1) (Rows.len r)
def spKids : Sp := fun vs H Q _ => ∃ (v : V) (p : Part), vs = [v] ∧ Tp H v p.data ∧ p.good ∧ p.size ≤ 60 ∧ ∀ (l : Addr) (us : List V) (H' : Hp), H l = none → H' l = some (.lst us) → Tps H' us (p.kids.map Part.data) → Same H H' → Q (.ref l) H'
def PARTSkvs : List (Str × V) := [("give", .int 2), ("plus", .int 2), ("less", .int 2), ("times", .int 2), ("below", .int 2), ("when", .int 3), ("pair", .int 2), ("left", .int 1), ("right", .int 1)]

/-! ### sums -/
def allGood (ps : List Part) : Prop := ∀ p ∈ ps, p.good
/-! ### how deep -/
def dsz : List (Part × Nat) → Nat
  | [] => 0
  | (p, _) :: r => p.size + dsz r
def dmx : List (Part × Nat) → Nat
  | [] => 0
  | (p, d) :: r => max (d + p.deep) (dmx r)
def pd (q : Part × Nat) : PyData := .tuple [q.1.data, .int q.2]
/-! ### programs' rows -/
def Prog.bodies (P : Prog) : List Part := P.fs.map (·.body) ++ [P.asked]
theorem Tp.prog {H : Hp} {v : V} {P : Prog} (h : Tp H v P.data) : ∃ a b u vs, v = .ref a ∧ H a = some (.tup [.ref b, u]) ∧ H b = some (.tup vs) ∧ Tps H vs (P.fs.map Fn1.data) ∧ Tp H u P.asked.data := by
  obtain ⟨a, x, u, rfl, ha, h1, h2⟩ := h.two
  obtain ⟨b, vs, rfl, hb, h3⟩ := h1.tup_inv
  exact ⟨a, b, u, vs, rfl, ha, hb, h3, h2⟩
def spLaw (K : PySem.W.Frag) : Sp := fun vs H Q _ => ∃ (a : Addr) (ns : List Int), vs = [.ref a] ∧ SqL K H a (ns.map V.int) ∧ ns.length ≤ 63 ∧ ∀ H', Q (.bl true) H'
/-- drawn programs -/
def spRight : Sp := fun vs H Q _ => ∃ (v : V) (P : Prog), vs = [v] ∧ Tp H v P.data ∧ P.fine ∧ ∀ H' : Hp, Same H H' → Q (.bl true) H'

/-! ### numbers, things, wants of functions -/
/-- f is the j-th function's name, or none is and j is how many there are -/
def NumAt (P : Prog) (f : Str) (j : Nat) : Prop := P.names[j]? = some f ∨ (f ∉ P.names ∧ j = P.names.length)
def spNum : Sp := fun vs H Q _ => ∃ (v : V) (P : Prog) (f : Str) (j : Nat), vs = [v, .str f] ∧ Tp H v P.data ∧ P.fine ∧ NumAt P f j ∧ ∀ H' : Hp, Same H H' → Q (.int j) H'
/-- the things of the function f -/
def ThingsAt (P : Prog) (f : Str) (ts : List Str) : Prop := (∃ (j : Nat) (fn : Fn1), P.fs[j]? = some fn ∧ fn.name = f ∧ ts = fn.things) ∨ (f ∉ P.names ∧ ts = [])
def spThings : Sp := fun vs H Q _ => ∃ (v : V) (P : Prog) (f : Str) (ts : List Str), vs = [v, .str f] ∧ Tp H v P.data ∧ P.fine ∧ ThingsAt P f ts ∧ ∀ (a : Addr) (H' : Hp), H' a = some (.tup (ts.map V.str)) → Same H H' → Q (.ref a) H'
def spWants : Sp := fun vs H Q _ => ∃ (v : V) (P : Prog) (f : Str) (ts : List Str), vs = [v, .str f] ∧ Tp H v P.data ∧ P.fine ∧ ThingsAt P f ts ∧ ∀ (H' : Hp), Same H H' → Q (.int ts.length) H'

/-! ### parts by their words -/
def Part.word : Part → Str
  | .num _ => "number"
  | .name _ => "name"
  | .fn _ => "fun"
  | .one k _ => k.word
  | .two k _ _ => k.word
  | .whn _ _ _ => "when"
  | .letp _ _ => "let"
  | .shut _ => "shut"
def Part.args : Part → List PyData
  | .num n => [.int n]
  | .name x => [.str x]
  | .fn f => [.str f]
  | .one _ a => [a.data]
  | .two _ a b => [a.data, b.data]
  | .whn a b c => [a.data, b.data, c.data]
  | .letp r a => [.tuple r.datas, a.data]
  | .shut a => [a.data]
theorem Part.data_eq (p : Part) : p.data = .tuple (.str p.word :: p.args) := by cases p <;> rfl
/-- the parts that are things of a part's tuple -/
def Part.subs : Part → List Part
  | .one _ a => [a]
  | .two _ a b => [a, b]
  | .whn a b c => [a, b, c]
  | .shut a => [a]
  | _ => []
def plainWord (x : Str) : Prop := x ∉ [("number" : Str), "fun", "let", "name"]
theorem Tp.part {H : Hp} {v : V} {p : Part} (h : Tp H v p.data) : ∃ a xs, v = .ref a ∧ H a = some (.tup (.str p.word :: xs)) ∧ Tps H xs p.args := by
  rw [p.data_eq] at h
  obtain ⟨a, xs, rfl, h1, h2⟩ := h.tup_inv
  obtain ⟨x, us, rfl, hx, hu⟩ := h2.cons_inv
  rw [hx.str_inv] at h1
  exact ⟨a, us, rfl, h1, hu⟩
mutual
/-- how many parts, those within shut ones too -/
def Part.big : Part → Nat
  | .num _ => 1
  | .name _ => 1
  | .fn _ => 1
  | .one _ a => 1 + a.big
  | .two _ a b => 1 + (a.big + b.big)
  | .whn a b c => 1 + (a.big + (b.big + c.big))
  | .letp r a => 1 + (r.big + a.big)
  | .shut a => 1 + a.big
def Rows.big : Rows → Nat
  | .nil => 0
  | .cons _ a r => a.big + r.big
end
def bsum : List Part → Nat
  | [] => 0
  | p :: r => p.big + bsum r
mutual
/-- a part of which nothing is asked but that its functions are there; shut ones too -/
def Part.wf (fs : List Str) : Part → Prop
  | .num _ => True
  | .name _ => True
  | .fn f => f ∈ fs
  | .one _ a => a.wf fs
  | .two _ a b => a.wf fs ∧ b.wf fs
  | .whn a b c => a.wf fs ∧ b.wf fs ∧ c.wf fs
  | .letp r a => r.wf fs ∧ a.wf fs
  | .shut a => a.wf fs
def Rows.wf (fs : List Str) : Rows → Prop
  | .nil => True
  | .cons _ a r => a.wf fs ∧ r.wf fs
end
/-- what stands ahead of a part's gives; the things that it is given, in their order -/
def Part.head : Part → Part
  | .two .give a _ => a.head
  | p => p
def Part.given : Part → List Part
  | .two .give a b => a.given ++ [b]
  | _ => []
/-- how many things f wants -/
def Prog.wantsOf (P : Prog) (f : Str) : Nat := match P.fs.find? (fun g => decide (g.name = f)) with
  | some g => g.things.length
  | none => 0
/-- is it a worth -/
def Part.worth (P : Prog) (p : Part) : Bool := decide (p.word ∈ [("number" : Str), "pair"]) || match p.head with
  | .fn f => decide (p.given.length < P.wantsOf f)
  | _ => false
/-- rows of a list -/
def Rows.of : List (Str × Part) → Rows
  | [] => .nil
  | q :: r => .cons q.1 q.2 (Rows.of r)
def rowD (q : Str × Part) : PyData := .tuple [.str q.1, q.2.data]
/-- a pen's is no tuple -/
theorem pen_tup {H : Hp} {pen L b : Addr} {xs : List V} (h : PenAt H pen L) (e : H b = some (.tup xs)) : b ≠ pen := by
  obtain ⟨_, _, _, hp, _⟩ := h
  rintro rfl
  rw [hp] at e
  cases e
/-! layable, so deep -/
def layD (k : Nat) (d : PyData) : Prop := PyData.canLay0 d = true ∧ PyData.depth d ≤ k
def Part.lk (k : Nat) (p : Part) : Prop := layD k p.data
theorem layD.mono {j k : Nat} {d : PyData} (h : layD j d) (hjk : j ≤ k) : layD k d := ⟨h.1, Nat.le_trans h.2 hjk⟩
theorem Part.lk.mono {j k : Nat} {p : Part} (h : p.lk j) (hjk : j ≤ k) : p.lk k := layD.mono h hjk
def Rows.list : Rows → List (Str × Part)
  | .nil => []
  | .cons x a r => (x, a) :: r.list
/-! ### pens, parts: for the search -/
theorem ne_pen {H : Hp} {pen L a : Addr} (h : PenAt H pen L) (h' : Fr H a) : pen ≠ a := (h.ne h').1
theorem ne_penL {H : Hp} {pen L a : Addr} (h : PenAt H pen L) (h' : Fr H a) : L ≠ a := (h.ne h').2
theorem Chg.to_pen {H H' : Hp} {pen L b : Addr} {xs : List V} (c : Chg pen H H') (hP : PenAt H pen L) (h : H b = some (.tup xs)) : H' b = some (.tup xs) := c b _ (pen_tup hP h) h
local macro_rules | `(tactic| walk_at "at") => `(tactic| first
  | assumption
  | ((with_reducible refine Same.to (H := ?gh) ?gs ?gt); (case gs => assumption); walk_at "at")
  | ((with_reducible refine Chg.to_pen (H := ?gh) (pen := ?ga) (L := ?gl) (xs := ?gx) ?gs ?gp ?gt); (case gs => assumption); (case gp => walk_at "pen0"); (case gt => walk_at "at"))
  | ((with_reducible refine Chg.to (H := ?gh) (a := ?ga) ?gs ?gt ?gn); (case gs => assumption); (case gn => walk_at "ne"); (case gt => walk_at "at")))
local macro_rules | `(tactic| walk_at "free") => `(tactic| first
  | assumption
  | ((with_reducible refine Same.free (H' := ?gh) ?gs ?gt); (case gs => assumption); walk_at "free")
  | ((with_reducible refine Chg.free (H' := ?gh) (a := ?ga) ?gs ?gn ?gt); (case gs => assumption); (case gn => walk_at "ne"); walk_at "free"))
local macro_rules | `(tactic| walk_at "ne") => `(tactic| first
  | assumption
  | (refine Ne.symm ?gt; assumption)
  | ((refine ne_fr (H := ?gh) (o := ?go) ?g1 ?g2); (case g2 => assumption); (case g1 => walk_at "at"))
  | ((refine Ne.symm (ne_fr (H := ?gh) (o := ?go) ?g1 ?g2)); (case g2 => assumption); (case g1 => walk_at "at"))
  | ((refine ne_pen (H := ?gh) (L := ?gl) ?g1 ?g2); (case g2 => assumption); (case g1 => walk_at "pen0"))
  | ((refine ne_penL (H := ?gh) (pen := ?gl) ?g1 ?g2); (case g2 => assumption); (case g1 => walk_at "pen0"))
  | ((refine Ne.symm (ne_pen (H := ?gh) (L := ?gl) ?g1 ?g2)); (case g2 => assumption); (case g1 => walk_at "pen0"))
  | ((refine Ne.symm (ne_penL (H := ?gh) (pen := ?gl) ?g1 ?g2)); (case g2 => assumption); (case g1 => walk_at "pen0")))
local macro_rules | `(tactic| walk_at "pen0") => `(tactic| first
  | assumption
  | ((with_reducible refine PenAt.same (H := ?gh) ?gt ?gs); (case gs => assumption); walk_at "pen0"))
local macro_rules | `(tactic| walk_at "pen") => `(tactic| first
  | assumption
  | ((with_reducible refine PenAt.same (H := ?gh) ?gt ?gs); (case gs => assumption); walk_at "pen")
  | ((with_reducible refine PenAt.chg (H := ?gh) (d := ?gd) ?gt ?gs ?g1 ?g2); (case gs => assumption); (case g1 => walk_at "ne"); (case g2 => walk_at "ne"); walk_at "pen"))
local macro_rules | `(tactic| walk_at "tk") => `(tactic| first
  | assumption
  | exact Tk.refl _
  | ((with_reducible refine Tk.same (H1 := ?gh) ?gt ?gs); (case gs => assumption); walk_at "tk")
  | ((with_reducible refine Tk.lst (H1 := ?gh) (a := ?ga) (ys := ?gy) ?gt ?gs ?gl); (case gs => assumption); (case gl => walk_at "at"); walk_at "tk")
  | ((with_reducible refine Tk.dct (H1 := ?gh) (a := ?ga) (kvs := ?gy) ?gt ?gs ?gl); (case gs => assumption); (case gl => walk_at "at"); walk_at "tk")
  | ((with_reducible refine Tk.trans (H1 := ?gh) ?gt (PenAt.tk (pen := ?gp) (L := ?gq) ?gl ?gs)); (case gs => assumption); (case gl => walk_at "pen"); walk_at "tk")
  | ((with_reducible refine Tk.trans (H1 := ?gh) ?gt ?gs); (case gs => assumption); walk_at "tk"))
local macro_rules | `(tactic| walk_at "same") => `(tactic| first
  | assumption
  | exact Same.refl _
  | ((with_reducible refine Same.more (H1 := ?gh) ?gt ?gs); (case gs => assumption); walk_at "same")
  | ((with_reducible refine Same.more2 (H1 := ?gh) (d := ?gd) ?gt ?gs ?gf); (case gs => assumption); (case gf => walk_at "free"); walk_at "same"))
local macro_rules | `(tactic| walk_at "chg") => `(tactic| first
  | assumption
  | exact Chg.refl
  | ((with_reducible refine Chg.trans (H1 := ?gh) ?gt ?gs); (case gs => assumption); walk_at "chg")
  | ((with_reducible refine Chg.trans (H1 := ?gh) ?gt (Chg.same ?gs)); (case gs => assumption); walk_at "chg")
  | ((with_reducible refine Chg.fresh (H1 := ?gh) (d := ?gd) ?gt ?gf ?gs); (case gs => assumption); (case gf => walk_at "free"); walk_at "chg"))
local macro_rules | `(tactic| walk_at "tps") => `(tactic| first
  | assumption
  | exact Tps.nil
  | (with_reducible (refine Tps.cons ?g1 ?g2); (case g1 => walk_at "tp"); walk_at "tps")
  | ((refine Tps.to (H := ?gh) ?gt ?gk); (case gt => assumption); walk_at "tk"))
local macro_rules | `(tactic| walk_at "tp") => `(tactic| first
  | assumption
  | exact Tp.str _
  | exact Tp.int _
  | exact Tp.bl _
  | exact Tp.non
  | ((refine Tp.to (H := ?gh) ?gt ?gk); (case gt => assumption); walk_at "tk")
  | ((refine Tp.tup (xs := ?gx) ?g1 ?g2); (case g1 => walk_at "at"); walk_at "tps"))
local macro_rules | `(tactic| walk_at "g2") => `(tactic| first
  | walk_at "g1"
  | with_reducible refine New.mk fun p H n e s => ?_
  | with_reducible refine Put.mk fun H e c => ?_
  | ((with_reducible refine g_ixTa (xs := ?gx) (v := ?gv) ?gh ?ge ?gi ?gt); (case gh => walk_at "at"); (case ge => exact rfl); (case gi => decide))
  | ((with_reducible refine g_ixLa (xs := ?gx) (v := ?gv) ?gh ?ge ?gi ?gt); (case gh => walk_at "at"); (case ge => exact rfl); (case gi => decide))
  | ((with_reducible refine g_tyl (xs := ?gx) (SqL.of ?gh) ?gt); (case gh => walk_at "at"))
  | ((with_reducible refine g_T ?gh ?gt); (case gh => exact rfl))
  | ((with_reducible refine g_F ?gh ?gt); (case gh => exact rfl))
  | ((with_reducible refine g_lenL (xs := ?gx) (SqL.of ?gh) ?gt); (case gh => walk_at "at"))
  | ((with_reducible refine g_lenT (xs := ?gx) (SqT.of ?gh) ?gt); (case gh => walk_at "at"))
  | ((with_reducible refine g_tupleL (xs := ?gx) (SqL.of ?gh) ?gt); (case gh => walk_at "at"))
  | ((with_reducible refine g_tupleT (xs := ?gx) (SqT.of ?gh) ?gt); (case gh => walk_at "at"))
  | ((with_reducible refine g_listL (xs := ?gx) (SqL.of ?gh) ?gt); (case gh => walk_at "at"))
  | ((with_reducible refine g_listT (xs := ?gx) (SqT.of ?gh) ?gt); (case gh => walk_at "at"))
  | ((refine g_un2 (x := ?gx) (y := ?gy) ?gh ?gt); (case gh => walk_at "at"); (try dsimp only [List.set]))
  | ((refine g_un3 (x := ?gx) (y := ?gy) (z := ?gz) ?gh ?gt); (case gh => walk_at "at"); (try dsimp only [List.set]))
  | ((with_reducible refine g_inX (xs := ?gx) (r := true) ?gh ?gf ?ge ?gt); (case gh => walk_at "at"); (case gf => exact rfl); (case ge => exact rfl))
  | ((with_reducible refine g_inX (xs := ?gx) (r := false) ?gh ?gf ?ge ?gt); (case gh => walk_at "at"); (case gf => exact rfl); (case ge => exact rfl))
  | ((with_reducible refine g_notInX (xs := ?gx) (r := true) ?gh ?gf ?ge ?gt); (case gh => walk_at "at"); (case gf => exact rfl); (case ge => exact rfl))
  | ((with_reducible refine g_notInX (xs := ?gx) (r := false) ?gh ?gf ?ge ?gt); (case gh => walk_at "at"); (case gf => exact rfl); (case ge => exact rfl))
  | ((with_reducible refine g_inK (kvs := ?gk) (r := false) ?gh ?ge ?gt); (case gh => assumption); (case ge => exact rfl))
  | ((with_reducible refine g_inK (kvs := ?gk) (r := true) ?gh ?ge ?gt); (case gh => assumption); (case ge => exact rfl))
  | ((with_reducible refine g_dnew ?gt))
  | ((with_reducible refine g_isTa (xs := ?gx) ?gh ?gt); (case gh => walk_at "at"))
  | ((with_reducible refine g_isLa (xs := ?gx) ?gh ?gt); (case gh => walk_at "at")))
local macro_rules | `(tactic| walk_at "gg") => `(tactic| repeat walk_at "g2")
local macro_rules | `(tactic| walk_at "len") => `(tactic| (show _ ≤ 16777216; simp only [List.length_append, List.length_cons, List.length_nil, List.length_map, List.length_reverse]; omega))
local macro_rules | `(tactic| walk_at "g2") => `(tactic| first
  | ((with_reducible refine g_neNil (xs := ?gx) ?gh ?gi ?gt); (case gi => walk_at "at"); (case gh => walk_at "at"))
  | ((with_reducible refine g_eqNil (xs := ?gx) ?gh ?gi ?gt); (case gi => walk_at "at"); (case gh => walk_at "at"))
  | ((with_reducible refine g_inGT (xs := ?gx) (r := true) ?gh ?gf ?ge ?gt); (case gh => assumption); (case gf => exact rfl); (case ge => exact rfl))
  | ((with_reducible refine g_inGT (xs := ?gx) (r := false) ?gh ?gf ?ge ?gt); (case gh => assumption); (case gf => exact rfl); (case ge => exact rfl))
  | with_reducible refine g_neBI ?_ | with_reducible refine g_neBS ?_ | with_reducible refine g_eqBI ?_ | with_reducible refine g_eqBS ?_
  | with_reducible refine g_dictZ ?_
  | with_reducible refine g_zipM ?_
  | ((with_reducible refine g_dict (kvs := ?gx) ?gh ?gt); (case gh => walk_at "at"))
  | ((with_reducible refine g_addL (xs := ?gx) (ys := ?gy) ?gh ?gi ?gl ?gt); (case gh => walk_at "at"); (case gi => walk_at "at"); (case gl => walk_at "len")))
local macro_rules | `(tactic| walk_at "draw") => `(tactic| ((refine g_draw (L := ?gl) ?gp ?g0 ?g1 ?gq); (case gp => walk_at "pen"); (case g0 => decide); (case g1 => decide)))
local macro_rules | `(tactic| walk_at "g2") => `(tactic| first
  | with_reducible refine g_calE ?_ | with_reducible refine g_calS ?_ | with_reducible refine g_calN ?_ | with_reducible refine g_raiseO ?_ | with_reducible refine g_raiseI ?_ | with_reducible refine g_tryK ?_)

/-! ### anything that may stand where rows are awaited: none, truths, numbers, texts, tuples; lists are not looked into -/
mutual
inductive Jq (H : Hp) : V → PyData → Prop
  | non : Jq H .non .none
  | bl (b : Bool) : Jq H (.bl b) (.bool b)
  | int (i : Int) : Jq H (.int i) (.int i)
  | str (x : Str) : Jq H (.str x) (.str x)
  | tup {a : Addr} {xs : List V} {ds : List PyData} : H a = some (.tup xs) → Jqs H xs ds → Jq H (.ref a) (.tuple ds)
  | lst {a : Addr} {xs : List V} {ds : List PyData} : H a = some (.lst xs) → Jq H (.ref a) (.list ds)
inductive Jqs (H : Hp) : List V → List PyData → Prop
  | nil : Jqs H [] []
  | cons {v : V} {vs : List V} {d : PyData} {ds : List PyData} : Jq H v d → Jqs H vs ds → Jqs H (v :: vs) (d :: ds)
end
/-- the tuples stay, the lists stay lists -/
structure Tj (H H' : Hp) : Prop where
  tup : Tk H H'
  lst : ∀ a xs, H a = some (.lst xs) → ∃ ys, H' a = some (.lst ys)
theorem Tj.trans {H H1 H2 : Hp} (a : Tj H H1) (b : Tj H1 H2) : Tj H H2 := ⟨a.tup.trans b.tup, fun c xs e => by obtain ⟨ys, h⟩ := a.lst c xs e; exact b.lst c ys h⟩
theorem Same.tj {H H' : Hp} (s : Same H H') : Tj H H' := ⟨Same.tk s, fun a xs e => ⟨xs, s _ _ e⟩⟩
theorem Chg.tj {H H' : Hp} {a : Addr} {ys zs : List V} (c : Chg a H H') (h : H a = some (.lst ys)) (h' : H' a = some (.lst zs)) : Tj H H' := ⟨c.tkl h, fun b xs e => by
  by_cases hb : b = a
  · exact ⟨zs, hb ▸ h'⟩
  · exact ⟨xs, c b _ hb e⟩⟩
mutual
theorem Jq.mono {H H' : Hp} (k : Tj H H') : ∀ {d : PyData} {v : V}, Jq H v d → Jq H' v d
  | .none, _, h => by cases h; exact .non
  | .bool b, _, h => by cases h; exact .bl b
  | .int i, _, h => by cases h; exact .int i
  | .str x, _, h => by cases h; exact .str x
  | .tuple ds, _, h => by
    cases h with
    | tup e r => exact .tup (k.tup _ _ e) (Jqs.mono k r)
  | .list ds, _, h => by
    cases h with
    | lst e => obtain ⟨ys, e'⟩ := k.lst _ _ e; exact .lst e'
  | .dict ds, _, h => by cases h
theorem Jqs.mono {H H' : Hp} (k : Tj H H') : ∀ {ds : List PyData} {vs : List V}, Jqs H vs ds → Jqs H' vs ds
  | [], _, h => by cases h; exact .nil
  | d :: ds, _, h => by
    cases h with
    | cons a b => exact .cons (Jq.mono k a) (Jqs.mono k b)
end
mutual
theorem Tp.jq {H : Hp} : ∀ {d : PyData} {v : V}, Tp H v d → Jq H v d
  | .none, _, h => by cases h; exact .non
  | .bool b, _, h => by cases h; exact .bl b
  | .int i, _, h => by cases h; exact .int i
  | .str x, _, h => by cases h; exact .str x
  | .tuple ds, _, h => by
    cases h with
    | tup e r => exact .tup e (Tps.jqs r)
  | .list ds, _, h => by cases h
  | .dict ds, _, h => by cases h
theorem Tps.jqs {H : Hp} : ∀ {ds : List PyData} {vs : List V}, Tps H vs ds → Jqs H vs ds
  | [], _, h => by cases h; exact .nil
  | d :: ds, _, h => by
    cases h with
    | cons a b => exact .cons (Tp.jq a) (Tps.jqs b)
end
theorem Jqs.length {H : Hp} : ∀ {vs : List V} {ds : List PyData}, Jqs H vs ds → vs.length = ds.length
  | _, _, .nil => rfl
  | _, _, .cons _ h => congrArg (· + 1) h.length
theorem Jqs.at {H : Hp} : ∀ {vs : List V} {ds : List PyData}, Jqs H vs ds → ∀ {i : Nat} {v : V}, vs[i]? = some v → ∃ d, ds[i]? = some d ∧ Jq H v d
  | _, _, .nil, i, v, e => by simp at e
  | _, _, .cons a r, 0, v, e => by cases e; exact ⟨_, rfl, a⟩
  | _, _, .cons a r, i + 1, v, e => r.at (i := i) e
theorem Jqs.drop {H : Hp} : ∀ {vs : List V} {ds : List PyData} (n : Nat), Jqs H vs ds → Jqs H (vs.drop n) (ds.drop n)
  | _, _, 0, h => h
  | _, _, n + 1, .nil => by simp; exact .nil
  | _, _, n + 1, .cons _ h => by simpa using Jqs.drop n h
theorem Jqs.take {H : Hp} : ∀ {vs : List V} {ds : List PyData} (n : Nat), Jqs H vs ds → Jqs H (vs.take n) (ds.take n)
  | _, _, 0, h => by simp; exact .nil
  | _, _, n + 1, .nil => by simp; exact .nil
  | _, _, n + 1, .cons a h => by simpa using Jqs.cons a (Jqs.take n h)
/-- what is due: texts, numbers, tuples of such, fewer than n deep -/
inductive Due : Nat → PyData → Prop
  | str (n : Nat) (s : Str) : Due (n + 1) (.str s)
  | int (n : Nat) (i : Int) : Due (n + 1) (.int i)
  | tup {n : Nat} {ds : List PyData} : ds.length ≤ 1000 → (∀ d ∈ ds, Due n d) → Due (n + 1) (.tuple ds)
theorem Due.up {n : Nat} {d : PyData} (h : Due n d) : Due (n + 1) d := by
  induction h with
  | str n s => exact .str _ s
  | int n i => exact .int _ i
  | tup hl _ ih => exact .tup hl ih
def spAlike (n : Nat) : Sp := fun vs H Q _ => ∃ (v u : V) (d e : PyData), vs = [v, u] ∧ Jq H v d ∧ Tp H u e ∧ Due n e ∧ ∀ (b : Bool) (H' : Hp), (b = true ↔ d = e) → Same H H' → Q (.bl b) H'
/-- the type of anything -/
def tyD : PyData → String
  | .none => "NoneType"
  | .bool _ => "bool"
  | .int _ => "int"
  | .str _ => "str"
  | .tuple _ => "tuple"
  | .list _ => "list"
  | .dict _ => "dict"
theorem Jq.ty {K : PySem.W.Frag} {H : Hp} {v : V} {d : PyData} (h : Jq H v d) : TyOf K H v (.type (tyD d)) := by
  cases h with
  | non => exact .non
  | bl b => exact .bl b
  | int i => exact .int i
  | str x => exact .str x
  | tup e _ => exact .tup e
  | lst e => exact .lst e
def isTupD : PyData → Bool
  | .tuple _ => true
  | _ => false
def isStrD : PyData → Bool
  | .str _ => true
  | _ => false
def isIntD : PyData → Bool
  | .int _ => true
  | .bool _ => true
  | _ => false
def isBoolD : PyData → Bool
  | .bool _ => true
  | _ => false
theorem kit_tuple {H : Hp} {v : V} {d : PyData} (h : Jq H v d) : kitB (tyD d) "tuple" = some (isTupD d) := by
  cases h <;> (simp only [tyD, isTupD]; decide +kernel)
theorem kit_str {H : Hp} {v : V} {d : PyData} (h : Jq H v d) : kitB (tyD d) "str" = some (isStrD d) := by
  cases h <;> (simp only [tyD, isStrD]; decide +kernel)
theorem kit_int {H : Hp} {v : V} {d : PyData} (h : Jq H v d) : kitB (tyD d) "int" = some (isIntD d) := by
  cases h <;> (simp only [tyD, isIntD]; decide +kernel)
theorem kit_bool {H : Hp} {v : V} {d : PyData} (h : Jq H v d) : kitB (tyD d) "bool" = some (isBoolD d) := by
  cases h <;> (simp only [tyD, isBoolD]; decide +kernel)
theorem all_alike {ds es : List PyData} {bs : List Bool} (h1 : ds.length = es.length) (h2 : bs.length = ds.length) (h : ∀ (i : Nat) (c : Bool), bs[i]? = some c → ∀ d e, ds[i]? = some d → es[i]? = some e → (c = true ↔ d = e)) : bs.all id = true ↔ ds = es := by
  rw [List.all_eq_true]
  constructor
  · intro ha
    refine List.ext_getElem h1 fun i hi hj => ?_
    have hb : i < bs.length := by omega
    exact (h i bs[i] (List.getElem?_eq_getElem hb) _ _ (List.getElem?_eq_getElem hi) (List.getElem?_eq_getElem hj)).mp (ha _ (List.getElem_mem hb))
  · rintro rfl c hc
    obtain ⟨i, hi, rfl⟩ := List.getElem_of_mem hc
    exact (h i _ (List.getElem?_eq_getElem hi) _ _ (List.getElem?_eq_getElem (by omega)) (List.getElem?_eq_getElem (by omega))).mpr rfl
theorem pure_alike {K : PySem.W.Frag} {w : World} {m : Nat} : PureOk 2 (spAlike (m + 1)) (t_is_alike K w (spAlike m)) 4 := by
  refine ⟨fun vs H Q E ⟨_, _, _, _, e, _⟩ => by rw [e]; rfl, ?_⟩
  rintro vs H Q E ⟨v, u, d, e, rfl, hv, hu, hd, q⟩
  show t_is_alike K w _ _ [some v, some u, none, none] H
  unfold t_is_alike
  cases hd with
  | str _ s =>
    cases hu
    walk_at "gg"
    refine g_isi (r := false) (.str _) (by decide +kernel) ?_
    walk_at "gg"
    refine g_isi (r := true) (.str _) (by decide +kernel) ?_
    walk_at "gg"
    refine g_isi hv.ty (kit_str hv) ?_
    walk_at "gg"
    cases hv with
    | str x =>
      refine g_T rfl ?_
      walk_at "gg"
      exact q _ H (by rw [decide_eq_true_eq]; exact ⟨fun h => by rw [h], fun h => by cases h; rfl⟩) (.refl _)
    | non => exact g_F rfl (q false H (by simp) (.refl _))
    | bl b => exact g_F rfl (q false H (by simp) (.refl _))
    | int i => exact g_F rfl (q false H (by simp) (.refl _))
    | tup e r => exact g_F rfl (q false H (by simp) (.refl _))
    | lst e => exact g_F rfl (q false H (by simp) (.refl _))
  | int _ i =>
    cases hu
    walk_at "gg"
    refine g_isi (r := false) (.int _) (by decide +kernel) ?_
    walk_at "gg"
    refine g_isi (r := false) (.int _) (by decide +kernel) ?_
    walk_at "gg"
    refine g_isi hv.ty (kit_int hv) ?_
    walk_at "gg"
    cases hv with
    | str x => exact g_F rfl (q false H (by simp) (.refl _))
    | non => exact g_F rfl (q false H (by simp) (.refl _))
    | bl b =>
      refine g_T rfl ?_
      walk_at "gg"
      refine g_isi (r := true) (.bl b) (by decide +kernel) ?_
      walk_at "gg"
      exact q false H (by simp) (.refl _)
    | int i =>
      refine g_T rfl ?_
      walk_at "gg"
      refine g_isi (r := false) (.int _) (by decide +kernel) ?_
      walk_at "gg"
      exact q _ H (by rw [decide_eq_true_eq]; exact ⟨fun h => by rw [h], fun h => by cases h; rfl⟩) (.refl _)
    | tup e r => exact g_F rfl (q false H (by simp) (.refl _))
    | lst e => exact g_F rfl (q false H (by simp) (.refl _))
  | @tup _ es hl hds =>
    cases hu with
    | @tup b ys _ eb tys =>
    walk_at "gg"
    refine g_isi (r := true) (.tup eb) (by decide +kernel) ?_
    walk_at "gg"
    refine g_isi hv.ty (kit_tuple hv) ?_
    walk_at "gg"
    cases hv with
    | str x => exact g_T rfl (by walk_at "gg"; exact q false H (by simp) (.refl _))
    | non => exact g_T rfl (by walk_at "gg"; exact q false H (by simp) (.refl _))
    | bl b => exact g_T rfl (by walk_at "gg"; exact q false H (by simp) (.refl _))
    | int i => exact g_T rfl (by walk_at "gg"; exact q false H (by simp) (.refl _))
    | lst e => exact g_T rfl (by walk_at "gg"; exact q false H (by simp) (.refl _))
    | @tup a xs ds ea txs =>
      refine g_F rfl ?_
      walk_at "gg"
      have l1 := txs.length
      have l2 := tys.length
      by_cases hn : xs.length = ys.length
      · rw [show (!decide ((xs.length : Int) = ys.length)) = false from by simp [hn]]
        walk_at "gg"
        refine ⟨.tup, .tup, _, _, _, _, rfl, .of ea, .of eb, ?_⟩
        intro D hD
        refine lc_any xs.length (fun i acc H' => ∃ bs : List Bool, acc = bs.map V.bl ∧ bs.length = i ∧ (∀ (k : Nat) (c : Bool), bs[k]? = some c → ∀ d e, ds[k]? = some d → es[k]? = some e → (c = true ↔ d = e)) ∧ Same H H') hD
          (fun H' _ s => ⟨[], rfl, rfl, by simp, s⟩)
          (fun i acc H' hi ⟨_, _, _, _, s⟩ => ⟨xs, ys, _, _, .of (s _ _ ea), .of (s _ _ eb), List.getElem?_eq_getElem hi, List.getElem?_eq_getElem (by omega)⟩)
          (fun acc H' ⟨_, _, _, _, s⟩ => ⟨xs, ys, .of (s _ _ ea), .of (s _ _ eb), .inl (Nat.le_refl _)⟩) ?_ ?_
        · rintro i x acc H4 _ hi hla ⟨bs, rfl, hbl, hbs, s4⟩ hd4 ⟨T, x1, y1, rfl, nT, rfl, hx, hy⟩
          have hx1 := hx _ (.of (s4 _ _ ea))
          have hy1 := hy _ (.of (s4 _ _ eb))
          obtain ⟨d1, hd1, tx1⟩ := txs.at hx1
          obtain ⟨e1, he1, ty1⟩ := tys.get hy1
          have s5 : Same H4 (upd H4 T (.tup [x1, y1])) := same_upd nT
          have eT : (upd H4 T (.tup [x1, y1])) T = some (.tup [x1, y1]) := upd_same
          generalize (upd H4 T (.tup [x1, y1])) = H5 at s5 eT
          refine g_un2 eT ?_
          refine ⟨rfl, ?_⟩
          walk_at "gg"
          refine ⟨_, _, d1, e1, rfl, tx1.mono (Same.tj (s4.trans s5)), ty1.mono (Same.tk (s4.trans s5)), hds _ (List.mem_of_getElem? he1), fun c H6 hc s6 => ?_⟩
          refine lc_step (s6 _ _ (s5 _ _ hd4)) hla (by show _ < 16777216; omega) fun H7 e7 c7 => ?_
          refine ⟨bs ++ [c], by simp, by simp [hbl], fun k c' hk d e hdk hek => ?_, fun b o eo => c7 b o (ne_of_none eo hD) (s6 b o (s5 b o (s4 b o eo)))⟩
          by_cases hkl : k < bs.length
          · rw [List.getElem?_append_left hkl] at hk
            exact hbs k c' hk d e hdk hek
          · have hk2 : k < (bs ++ [c]).length := (List.getElem?_eq_some_iff.mp hk).1
            rw [List.length_append, List.length_singleton] at hk2
            have : k = bs.length := by omega
            subst this
            rw [List.getElem?_append_right (Nat.le_refl _), Nat.sub_self] at hk
            cases hk
            rw [hbl] at hdk hek
            rw [hd1] at hdk
            rw [he1] at hek
            cases hdk
            cases hek
            exact hc
        · rintro acc H4 hd4 ⟨bs, rfl, hbl, hbs, s4⟩
          walk_at "gg"
          refine ⟨D, bs, rfl, .of hd4, ?_⟩
          refine q _ H4 ?_ s4
          rw [all_alike (by omega) (by omega) hbs]
          exact ⟨fun h => by rw [h], fun h => by cases h; rfl⟩
      · rw [show (!decide ((xs.length : Int) = ys.length)) = true from by simp; omega]
        walk_at "gg"
        exact q false H ⟨fun h => (by cases h), fun h => (by cases h; exact absurd (l1.trans l2.symm) hn)⟩ (.refl _)

/-! ### cells -/
/-- a cell's tuple at v, the cells that it names -/
def CellAt (H : Hp) (v : V) (ns : List Int) : Prop := ∃ a xs, v = .ref a ∧ H a = some (.tup xs) ∧
  ((∃ (k : Str) (rest : List V), xs = .str k :: rest ∧ k ∈ [("number" : Str), "call", "bare"] ∧ ns = []) ∨
   (∃ f b, xs = [.str "function", f, .ref b] ∧ H b = some (.tup (ns.map V.int))) ∨
   (∃ k : Str, xs = .str k :: ns.map V.int ∧ ns ≠ [] ∧ k ∉ [("number" : Str), "call", "bare"] ∧ k ≠ "function"))
theorem CellAt.same {H H' : Hp} {v : V} {ns : List Int} (h : CellAt H v ns) (s : ∀ b xs, H b = some (.tup xs) → H' b = some (.tup xs)) : CellAt H' v ns := by
  obtain ⟨a, xs, e, ha, h⟩ := h
  refine ⟨a, xs, e, s _ _ ha, ?_⟩
  rcases h with h | ⟨f, b, e1, hb⟩ | h
  · exact .inl h
  · exact .inr (.inl ⟨f, b, e1, s _ _ hb⟩)
  · exact .inr (.inr h)
def spNamedBy : Sp := fun vs H Q _ => ∃ (v : V) (ns : List Int), vs = [v] ∧ CellAt H v ns ∧ ns.length ≤ 4 ∧ ∀ (l : Addr) (H' : Hp), H l = none → H' l = some (.lst (ns.map V.int)) → Same H H' → Q (.ref l) H'
theorem pure_named_by {K : PySem.W.Frag} {w : World} : PureOk 1 spNamedBy (t_named_by K w) 1 := by
  refine ⟨fun vs H Q E ⟨v, ns, e, _⟩ => by rw [e]; rfl, ?_⟩
  rintro vs H Q E ⟨_, ns, rfl, ⟨a, xs, rfl, ha, hk⟩, hl, q⟩
  show t_named_by K w _ [some (.ref a)] H
  unfold t_named_by
  walk_at "go"
  have first : ∀ {H : Hp} {Q : VK}, H a = some (.tup xs) → (∀ k : Str, xs.head? = some (.str k) → Q (.str k) H) → rIxG K w (.ref a) (.int 0) H Q := by
    intro H Q ha h
    rcases hk with ⟨k, rest, rfl, _⟩ | ⟨f, b, rfl, _⟩ | ⟨k, rfl, _⟩
    all_goals exact g_ixT (.of ha) (atI_of (by decide) rfl) (h _ rfl)
  refine first ha fun k hk0 => ?_
  walk_at "go"
  intro p H1 np e1 s1
  refine g_inT (ss := [("number" : Str), "call", "bare"]) (.of e1) ?_
  walk_at "go"
  rcases hk with ⟨k', rest, rfl, hm, rfl⟩ | ⟨f, b, rfl, hb⟩ | ⟨k', rfl, hne, hm, hf⟩
  · cases hk0
    refine g_T (decide_eq_true hm) ?_
    walk_at "go"
    intro l H2 nl e2 s2
    exact q l H2 (s1.free nl) e2 (s1.trans s2)
  · cases hk0
    refine g_F (by decide +kernel) ?_
    walk_at "go"
    refine first (s1 _ _ ha) fun k hk0 => ?_
    cases hk0
    walk_at "go"
    refine g_T (by decide +kernel) ?_
    walk_at "go"
    refine g_ixT (.of (s1 _ _ ha)) (atI_of (by decide) rfl) ?_
    walk_at "go"
    refine g_listT (.of (s1 _ _ hb)) fun l H2 nl e2 s2 => ?_
    exact q l H2 (s1.free nl) e2 (s1.trans s2)
  · cases hk0
    refine g_F (decide_eq_false hm) ?_
    walk_at "go"
    refine first (s1 _ _ ha) fun k hk0 => ?_
    cases hk0
    walk_at "go"
    refine g_F (decide_eq_false hf) ?_
    walk_at "go"
    refine g_slT (.of (s1 _ _ ha)) (by rw [show (1 : Int) = ((1 : Nat) : Int) from rfl, HT.sIx_nat, List.length_cons, List.length_map]; omega) fun p2 H2 np2 e2 s2 => ?_
    have ec : cutV (V.str k :: ns.map V.int) (some 1) none = ns.map V.int := by
      unfold cutV
      rw [show (1 : Int) = ((1 : Nat) : Int) from rfl, HT.sIx_nat, HT.sIx_none, List.length_cons, Nat.min_eq_left (by omega)]
      show ((ns.map V.int)).take _ = _
      rw [List.take_of_length_le (by omega)]
    rw [ec] at e2
    walk_at "go"
    refine g_listT (.of e2) fun l H3 nl e3 s3 => ?_
    exact q l H3 (s1.free (s2.free nl)) e3 (s1.trans (s2.trans s3))

/-! ### cells in a dict, by their numbers -/
theorem nodup_leS {α : Type} [DecidableEq α] : ∀ (l m : List α), l.Nodup → (∀ x ∈ l, x ∈ m) → l.length ≤ m.length
  | [], m, _, _ => Nat.zero_le _
  | x :: l, m, hn, h => by
    rw [List.nodup_cons] at hn
    have hx : x ∈ m := h x List.mem_cons_self
    have := nodup_leS l (m.erase x) hn.2 fun y hy => by
      have hne : y ≠ x := fun e => hn.1 (e ▸ hy)
      exact (List.mem_erase_of_ne hne).mpr (h y (List.mem_cons_of_mem _ hy))
    rw [List.length_erase_of_mem hx] at this
    have hp := List.length_pos_of_mem hx
    rw [List.length_cons]
    omega
theorem nodup_all {α : Type} [DecidableEq α] {l m : List α} (hn : l.Nodup) (h : ∀ x ∈ l, x ∈ m) (hl : m.length ≤ l.length) : ∀ x ∈ m, x ∈ l := fun x hx => by
  by_cases hc : x ∈ l
  · exact hc
  · have := nodup_leS (x :: l) m (List.nodup_cons.mpr ⟨hc, hn⟩) fun y hy => by
      rcases List.mem_cons.mp hy with rfl | hy
      · exact hx
      · exact h y hy
    rw [List.length_cons] at this
    omega
theorem inV_int (k : Int) : ∀ ns : List Int, inV (.int k) (ns.map V.int) = decide (k ∈ ns)
  | [] => by simp [inV]
  | n :: ns => by
    have ih := inV_int k ns
    unfold inV at ih ⊢
    rw [List.map_cons, List.any_cons, ih]
    show (n == k || decide (k ∈ ns)) = _
    by_cases e : n = k
    · subst e; simp
    · have e' : ¬ k = n := fun z => e z.symm
      rw [show (n == k) = false from by simp [e]]
      simp [e']
theorem flat_ints : ∀ ns : List Int, (ns.map V.int).all flatV = true
  | [] => rfl
  | n :: ns => by rw [List.map_cons, List.all_cons, flat_ints ns]; rfl
theorem flatB_ints : ∀ ns : List Int, (ns.map V.int).all flatB = true
  | [] => rfl
  | n :: ns => by rw [List.map_cons, List.all_cons, flatB_ints ns]; rfl
section
variable {K : PySem.W.Frag} {w : World} {H H' : Hp} {Q : VK} {p a : Addr} {k n : Int} {ns : List Int}
theorem g_inLI (h : H p = some (.lst (ns.map V.int))) (q : Q (.bl (decide (k ∈ ns))) H) : rInG K w false (.int k) (.ref p) H Q := .inl ⟨p, ns.map V.int, rfl, .inl (.of h), rfl, flat_ints ns, by rw [inV_int]; exact q⟩
theorem g_notLI (h : H p = some (.lst (ns.map V.int))) (q : Q (.bl (!decide (k ∈ ns))) H) : rInG K w true (.int k) (.ref p) H Q := .inl ⟨p, ns.map V.int, rfl, .inl (.of h), rfl, flat_ints ns, by rw [inV_int]; exact q⟩
theorem g_notTI (h : H p = some (.tup (ns.map V.int))) (q : Q (.bl (!decide (k ∈ ns))) H) : rInG K w true (.int k) (.ref p) H Q := .inl ⟨p, ns.map V.int, rfl, .inr (.of h), rfl, flat_ints ns, by rw [inV_int]; exact q⟩
theorem g_inDI {kvs : List (Key × V)} (h : H a = some (.dK kvs)) (q : Q (.bl (valV kvs (.inl n)).isSome) H) : rInG K w false (.int n) (.ref a) H Q :=
  .inr (.inr (.inl ⟨a, valV kvs (.inl n), rfl, .inl ⟨kvs, .inl n, .of h, rfl, rfl⟩, q⟩))
theorem g_notDI {kvs : List (Key × V)} (h : H a = some (.dK kvs)) (q : Q (.bl (!(valV kvs (.inl n)).isSome)) H) : rInG K w true (.int n) (.ref a) H Q :=
  .inr (.inr (.inl ⟨a, valV kvs (.inl n), rfl, .inl ⟨kvs, .inl n, .of h, rfl, rfl⟩, q⟩))
end
theorem prd_imp {α β : Type} {F G : α → β → Prop} (h : ∀ a b, F a b → G a b) : ∀ {l : List α} {m : List β}, Paired F l m → Paired G l m
  | _, _, .nil => .nil
  | _, _, .cons a r => .cons (h _ _ a) (prd_imp h r)
def CellIn (H : Hp) (kv : Key × V) (c : Int × List Int) : Prop := kv.1 = .inl c.1 ∧ CellAt H kv.2 c.2 ∧ c.2.length ≤ 4
def nums (cs : List (Int × List Int)) : List Int := cs.map (·.1)
def look (cs : List (Int × List Int)) (n : Int) : List Int := ((cs.find? fun c => decide (c.1 = n)).map (·.2)).getD []
theorem look_mem : ∀ {cs : List (Int × List Int)} {n : Int}, n ∈ nums cs → (n, look cs n) ∈ cs
  | [], n, h => by cases h
  | c :: cs, n, h => by
    unfold look
    by_cases e : c.1 = n
    · rw [List.find?_cons, show decide (c.1 = n) = true from decide_eq_true e]
      subst e
      exact List.mem_cons_self
    · rw [List.find?_cons, show decide (c.1 = n) = false from decide_eq_false e]
      refine List.mem_cons_of_mem _ (look_mem (cs := cs) ?_)
      unfold nums at h ⊢
      rw [List.map_cons, List.mem_cons] at h
      exact h.resolve_left fun z => e z.symm
theorem look_none : ∀ {cs : List (Int × List Int)} {n : Int}, n ∉ nums cs → look cs n = []
  | [], n, h => rfl
  | c :: cs, n, h => by
    unfold look
    have e : ¬ c.1 = n := fun z => h (by unfold nums; rw [List.map_cons, ← z]; exact List.mem_cons_self)
    rw [List.find?_cons, show decide (c.1 = n) = false from decide_eq_false e]
    exact look_none (cs := cs) fun z => h (List.mem_cons_of_mem _ z)
structure CellsAt (H : Hp) (a : Addr) (cs : List (Int × List Int)) : Prop where
  ex : ∃ kvs, H a = some (.dK kvs) ∧ Paired (CellIn H) kvs cs
  nd : (nums cs).Nodup
  few : cs.length ≤ 14
  shut : ∀ c ∈ cs, ∀ n ∈ c.2, n ∈ nums cs
section
variable {K : PySem.W.Frag} {w : World} {H H' : Hp} {Q : VK} {p a d : Addr} {k n : Int} {ns : List Int} {cs : List (Int × List Int)}
theorem CellIn.to {kv : Key × V} {c : Int × List Int} (t : Tk H H') (h : CellIn H kv c) : CellIn H' kv c := ⟨h.1, h.2.1.same t, h.2.2⟩
theorem CellsAt.to (h : CellsAt H a cs) (e : ∀ kvs, H a = some (.dK kvs) → H' a = some (.dK kvs)) (t : Tk H H') : CellsAt H' a cs := by
  obtain ⟨kvs, hk, hp⟩ := h.ex
  exact ⟨⟨kvs, e _ hk, prd_imp (fun _ _ x => CellIn.to t x) hp⟩, h.nd, h.few, h.shut⟩
theorem CellsAt.same (h : CellsAt H a cs) (s : Same H H') : CellsAt H' a cs := h.to (fun _ e => s _ _ e) (Same.tk s)
theorem CellsAt.chg {ys : List V} (h : CellsAt H a cs) (c : Chg d H H') (hd : H d = some (.lst ys)) : CellsAt H' a cs :=
  h.to (fun kvs e => c _ _ (by rintro rfl; rw [hd] at e; cases e) e) (c.tkl hd)
theorem cell_has : ∀ {kvs : List (Key × V)} {cs : List (Int × List Int)}, Paired (CellIn H) kvs cs → (valV kvs (.inl n)).isSome = decide (n ∈ nums cs)
  | _, _, .nil => by simp [nums, valV]
  | kv :: kvs, c :: cs, .cons h r => by
    have ih := cell_has r
    by_cases e : c.1 = n
    · rw [valV_pos (by rw [h.1, e])]
      subst e
      exact (decide_eq_true (List.mem_cons_self)).symm
    · rw [valV_neg (by rw [h.1]; exact fun z => e (Sum.inl.inj z)), ih]
      have e' : ¬ n = c.1 := fun z => e z.symm
      unfold nums
      simp [e']
theorem cell_val : ∀ {kvs : List (Key × V)} {cs : List (Int × List Int)}, Paired (CellIn H) kvs cs → n ∈ nums cs → ∃ v, valV kvs (.inl n) = some v ∧ CellAt H v (look cs n) ∧ (look cs n).length ≤ 4
  | _, _, .nil, hn => by cases hn
  | kv :: kvs, c :: cs, .cons h r, hn => by
    by_cases e : c.1 = n
    · refine ⟨kv.2, valV_pos (by rw [h.1, e]), ?_⟩
      unfold look
      rw [List.find?_cons, show decide (c.1 = n) = true from decide_eq_true e]
      exact ⟨h.2.1, h.2.2⟩
    · have hn' : n ∈ nums cs := by
        unfold nums at hn ⊢
        rw [List.map_cons, List.mem_cons] at hn
        exact hn.resolve_left fun z => e z.symm
      obtain ⟨v, e1, e2⟩ := cell_val r hn'
      refine ⟨v, by rw [valV_neg (by rw [h.1]; exact fun z => e (Sum.inl.inj z))]; exact e1, ?_⟩
      unfold look at e2 ⊢
      rw [List.find?_cons, show decide (c.1 = n) = false from decide_eq_false e]
      exact e2
theorem g_notC (h : CellsAt H a cs) (q : Q (.bl (!decide (n ∈ nums cs))) H) : rInG K w true (.int n) (.ref a) H Q := by
  obtain ⟨kvs, e, hp⟩ := h.ex
  exact g_notDI e (by rw [cell_has hp]; exact q)
theorem g_ixC (h : CellsAt H a cs) (hn : n ∈ nums cs) (q : ∀ v, CellAt H v (look cs n) → (look cs n).length ≤ 4 → Q v H) : rIxG K w (.ref a) (.int n) H Q := by
  obtain ⟨kvs, e, hp⟩ := h.ex
  obtain ⟨v, e1, e2, e3⟩ := cell_val hp hn
  exact g_ixD e (k := .inl n) rfl e1 (q v e2 e3)
theorem CellsAt.lk (h : CellsAt H a cs) {b : Int} (hb : b ∈ look cs n) : n ∈ nums cs ∧ b ∈ nums cs := by
  have hn : n ∈ nums cs := by
    by_cases hc : n ∈ nums cs
    · exact hc
    · rw [look_none hc] at hb
      cases hb
  exact ⟨hn, h.shut _ (look_mem hn) b hb⟩
end
/-- the law's own look at what a cell names -/
theorem pure_lnamed {K : PySem.W.Frag} {w : World} : PureOk 1 spNamedBy (t_law_named K w) 1 := by
  refine ⟨fun vs H Q E ⟨v, ns, e, _⟩ => by rw [e]; rfl, ?_⟩
  rintro vs H Q E ⟨_, ns, rfl, ⟨a, xs, rfl, ha, hk⟩, hl, q⟩
  show t_law_named K w _ [some (.ref a)] H
  unfold t_law_named
  walk_at "go"
  have first : ∀ {H : Hp} {Q : VK}, H a = some (.tup xs) → (∀ k : Str, xs.head? = some (.str k) → Q (.str k) H) → rIxG K w (.ref a) (.int 0) H Q := by
    intro H Q ha h
    rcases hk with ⟨k, rest, rfl, _⟩ | ⟨f, b, rfl, _⟩ | ⟨k, rfl, _⟩
    all_goals exact g_ixT (.of ha) (atI_of (by decide) rfl) (h _ rfl)
  refine first ha fun k hk0 => ?_
  walk_at "go"
  intro p H1 np e1 s1
  refine g_inT (ss := [("number" : Str), "call", "bare"]) (.of e1) ?_
  walk_at "go"
  rcases hk with ⟨k', rest, rfl, hm, rfl⟩ | ⟨f, b, rfl, hb⟩ | ⟨k', rfl, hne, hm, hf⟩
  · cases hk0
    refine g_T (decide_eq_true hm) ?_
    walk_at "go"
    intro l H2 nl e2 s2
    exact q l H2 (s1.free nl) e2 (s1.trans s2)
  · cases hk0
    refine g_F (by decide +kernel) ?_
    walk_at "go"
    refine g_slT (.of (s1 _ _ ha)) (by show ¬ (HT.sIx 3 0 (some ((1 : Nat) : Int)) = 0 ∧ _); rw [HT.sIx_nat]; omega) fun p2 H2 np2 e2 s2 => ?_
    walk_at "go"
    refine g_ixT (.of (s2 _ _ (s1 _ _ ha))) (v := .ref b) rfl ?_
    walk_at "go"
    intro p3 H3 np3 e3 s3
    walk_at "go"
    refine first (s3 _ _ (s2 _ _ (s1 _ _ ha))) fun k hk0 => ?_
    cases hk0
    walk_at "go"
    refine g_listT (.of (s3 _ _ (s2 _ _ (s1 _ _ hb)))) fun l H4 nl e4 s4 => ?_
    exact q l H4 (s1.free (s2.free (s3.free nl))) e4 (s1.trans (s2.trans (s3.trans s4)))
  · cases hk0
    refine g_F (decide_eq_false hm) ?_
    walk_at "go"
    refine g_slT (.of (s1 _ _ ha)) (by rw [show (1 : Int) = ((1 : Nat) : Int) from rfl, HT.sIx_nat, List.length_cons, List.length_map]; omega) fun p2 H2 np2 e2 s2 => ?_
    have ec : cutV (V.str k :: ns.map V.int) (some 1) none = ns.map V.int := by
      unfold cutV
      rw [show (1 : Int) = ((1 : Nat) : Int) from rfl, HT.sIx_nat, HT.sIx_none, List.length_cons, Nat.min_eq_left (by omega)]
      show ((ns.map V.int)).take _ = _
      rw [List.take_of_length_le (by omega)]
    rw [ec] at e2
    walk_at "go"
    obtain ⟨z, hz⟩ : ∃ z, atI (V.str k :: ns.map V.int) (-1) = some z := by
      rcases List.eq_nil_or_concat (V.str k :: ns.map V.int) with h | ⟨l, z, h⟩
      · cases h
      · exact ⟨z, by rw [h]; simpa using atI_last l z⟩
    refine g_ixT (.of (s2 _ _ (s1 _ _ ha))) hz ?_
    walk_at "go"
    intro p3 H3 np3 e3 s3
    walk_at "go"
    refine first (s3 _ _ (s2 _ _ (s1 _ _ ha))) fun k hk0 => ?_
    cases hk0
    walk_at "go"
    rw [decide_eq_false hf]
    refine g_ixL (.of e3) (v := .ref p2) rfl ?_
    walk_at "go"
    refine g_listT (.of (s3 _ _ e2)) fun l H4 nl e4 s4 => ?_
    exact q l H4 (s1.free (s2.free (s3.free nl))) e4 (s1.trans (s2.trans (s3.trans s4)))

/-! ### what roots reach -/
def Reach (cs : List (Int × List Int)) (roots : List Int) (n : Int) : Prop := ∀ S : Int → Prop, (∀ r ∈ roots, S r) → (∀ a, S a → ∀ b ∈ look cs a, S b) → S n
section
variable {H H' : Hp} {cs : List (Int × List Int)} {roots : List Int} {n b : Int} {a : Addr}
theorem Reach.root (h : n ∈ roots) : Reach cs roots n := fun S h1 _ => h1 n h
theorem Reach.step (h : Reach cs roots n) (hb : b ∈ look cs n) : Reach cs roots b := fun S h1 h2 => h2 n (h S h1 h2) b hb
theorem Reach.num (h : Reach cs roots n) (hc : CellsAt H a cs) (hr : ∀ r ∈ roots, r ∈ nums cs) : n ∈ nums cs := h (· ∈ nums cs) hr fun _ _ b hb => (hc.lk hb).2
theorem keys_has : ∀ {kvs : List (Key × V)} {ks : List Int}, kvs.map (·.1) = ks.map Sum.inl → (valV kvs (.inl n)).isSome = decide (n ∈ ks)
  | [], [], _ => by simp [valV]
  | [], _ :: _, h => by simp at h
  | _ :: _, [], h => by simp at h
  | kv :: kvs, k :: ks, h => by
    simp only [List.map_cons, List.cons.injEq] at h
    have ih := keys_has h.2
    by_cases e : k = n
    · rw [valV_pos (by rw [h.1, e])]
      subst e
      exact (decide_eq_true List.mem_cons_self).symm
    · rw [valV_neg (by rw [h.1]; exact fun z => e (Sum.inl.inj z)), ih]
      have e' : ¬ n = k := fun z => e z.symm
      simp [e']
theorem keys_put {kvs : List (Key × V)} {ks : List Int} {v : V} (h : kvs.map (·.1) = ks.map Sum.inl) (hn : n ∉ ks) : putK kvs (.inl n) v = kvs ++ [(.inl n, v)] ∧ (kvs ++ [((.inl n : Key), v)]).map (·.1) = (ks ++ [n]).map Sum.inl := by
  have e : valV kvs (.inl n) = none := by
    have := keys_has (n := n) h
    rw [decide_eq_false hn] at this
    cases e : valV kvs (.inl n) with
    | none => rfl
    | some v => rw [e] at this; cases this
  exact ⟨putK_new _ e, by rw [List.map_append, List.map_append, h]; rfl⟩
end
theorem nil_snoc {α : Type} (l : List α) : l = [] ∨ ∃ a b, l = a ++ [b] := by
  rcases List.eq_nil_or_concat l with h | ⟨a, b, h⟩
  · exact .inl h
  · exact .inr ⟨a, b, by rw [h, List.concat_eq_append]⟩
def spReached : Sp := fun vs H Q _ => ∃ (ca ra : Addr) (cs : List (Int × List Int)) (roots : List Int), vs = [.ref ca, .ref ra] ∧ CellsAt H ca cs ∧ H ra = some (.lst (roots.map V.int)) ∧ (∀ r ∈ roots, r ∈ nums cs) ∧ roots.length ≤ 100 ∧
  ∀ (d : Addr) (kvs : List (Key × V)) (ks : List Int) (H' : Hp), H' d = some (.dK kvs) → kvs.map (·.1) = ks.map Sum.inl → ks.Nodup → (∀ k ∈ ks, Reach cs roots k) → Same H H' → Q (.ref d) H'
theorem pure_reached {K : PySem.W.Frag} {w : World} : PureOk 2 spReached (t_law_reached K w spNamedBy) 5 := by
  refine ⟨fun vs H Q E ⟨_, _, _, _, e, _⟩ => by rw [e]; rfl, ?_⟩
  rintro vs H Q E ⟨ca, ra, cs, roots, rfl, hC, era, hr, hl, q⟩
  show t_law_reached K w _ _ [some (.ref ca), some (.ref ra), none, none, none] H
  unfold t_law_reached
  walk_at "gg"
  rename_i d H1 n1 e1 s1 l H2 n2 e2 s2
  have nd2 : H d = none := n1
  have nl2 : H l = none := s1.free n2
  refine while_any (fun m σ H' => ∃ (x4 : Option V) (pile ks : List Int) (kvs : List (Key × V)), σ = [some (.ref ca), some (.ref ra), some (.ref d), some (.ref l), x4] ∧ H' l = some (.lst (pile.map V.int)) ∧ H' d = some (.dK kvs) ∧ kvs.map (·.1) = ks.map Sum.inl ∧ ks.Nodup ∧
    (∀ k ∈ ks, Reach cs roots k) ∧ (∀ k ∈ pile, Reach cs roots k) ∧ Same H H' ∧ pile.length ≤ 100 + 4 * ks.length ∧ m = 5 * (14 - ks.length) + pile.length) (5 * 14 + roots.length)
    ⟨none, roots, [], [], rfl, e2, s2 _ _ e1, rfl, List.nodup_nil, by simp, fun k hk => .root hk, s1.trans s2, by simp; omega, by simp⟩ ?_
  rintro m σ H' ⟨x4, pile, ks, kvs, rfl, el, ed, hks, hnd, hk, hp, s', hpl, rfl⟩
  have hk14 : ks.length ≤ 14 := by
    have h1 := nodup_leS ks (nums cs) hnd fun k h => (hk k h).num hC hr
    have h2 := hC.few
    unfold nums at h1
    rw [List.length_map] at h1
    omega
  walk_at "gg"
  rename_i p3 H3 n3 e3 s3
  rcases nil_snoc pile with rfl | ⟨pile0, n, rfl⟩
  · refine g_F rfl ?_
    walk_at "gg"
    exact q d kvs ks H3 (s3 _ _ ed) hks hnd hk (s'.trans s3)
  · rw [List.map_append] at el
    refine g_T (by simp) ?_
    refine g_turn ?_
    have hdl : d ≠ l := fun e => by subst e; rw [ed] at el; cases el
    have hn : Reach cs roots n := hp n (by simp)
    walk_at "gg"
    refine g_pop (v := .int n) (s3 _ _ el) fun H4 e4 c4 => ?_
    have s4 : Same H H4 := Same.chg (s'.trans s3) nl2 c4
    have ed4 : H4 d = some (.dK kvs) := c4 _ _ hdl (s3 _ _ ed)
    walk_at "gg"
    refine g_notDI ed4 ?_
    rw [keys_has hks]
    walk_at "gg"
    by_cases hc : n ∈ ks
    · rw [decide_eq_true hc]
      refine g_F rfl ?_
      refine ⟨_, ?_, _, pile0, ks, kvs, rfl, e4, ed4, hks, hnd, hk, fun k hkp => hp k (List.mem_append_left _ hkp), s4, ?_, rfl⟩
      · rw [List.length_append, List.length_singleton]; omega
      · rw [List.length_append, List.length_singleton] at hpl; omega
    · rw [decide_eq_false hc]
      refine g_T rfl ?_
      obtain ⟨k1, k2⟩ := keys_put (v := .bl true) hks hc
      have hkl : kvs.length = ks.length := by
        have := congrArg List.length hks
        rwa [List.length_map, List.length_map] at this
      walk_at "gg"
      refine g_setK ed4 (k := .inl n) rfl (by show _ < 16777216; omega) fun H5 e5 c5 => ?_
      rw [k1] at e5
      have s5 : Same H H5 := Same.chg s4 nd2 c5
      walk_at "gg"
      have el5 : H5 l = some (.lst (pile0.map V.int)) := c5 _ _ hdl.symm e4
      refine g_ixC (hC.same s5) (hn.num hC hr) fun v hv hvl => ?_
      walk_at "gg"
      refine ⟨v, _, rfl, hv, hvl, fun b H6 n6 e6 s6 => ?_⟩
      walk_at "gg"
      refine g_extend (s6 _ _ el5) e6 (by show _ ≤ 16777216; rw [List.length_map, List.length_map]; rw [List.length_append] at hpl; omega) fun H7 e7 c7 => ?_
      have hk14' : ks.length + 1 ≤ 14 := by
        have h1 := nodup_leS (n :: ks) (nums cs) (List.nodup_cons.mpr ⟨hc, hnd⟩) fun k h => by
          rcases List.mem_cons.mp h with rfl | h
          · exact hn.num hC hr
          · exact (hk k h).num hC hr
        have h2 := hC.few
        unfold nums at h1
        rw [List.length_map, List.length_cons] at h1
        omega
      rw [← List.map_append] at e7
      refine ⟨_, ?_, _, pile0 ++ look cs n, ks ++ [n], _, rfl, e7, c7 _ _ hdl (s6 _ _ e5), k2, ?_, ?_, ?_, Same.chg (s5.trans s6) nl2 c7, ?_, rfl⟩
      · simp only [List.length_append, List.length_singleton]; omega
      · exact List.nodup_append.mpr ⟨hnd, by simp, fun x hx y hy e => by simp at hy; subst hy; subst e; exact hc hx⟩
      · intro k hkm
        rcases List.mem_append.mp hkm with h | h
        · exact hk k h
        · simp at h; subst h; exact hn
      · intro k hkm
        rcases List.mem_append.mp hkm with h | h
        · exact hp k (List.mem_append_left _ h)
        · exact hn.step h
      · rw [List.length_append, List.length_singleton] at hpl
        rw [List.length_append, List.length_append, List.length_singleton]
        omega

/-! ### ways from roots -/
def WayIn (H : Hp) (b : Nat) (p : Key × V) : Prop := ∃ (t : Addr) (ms : List Int), p.2 = .ref t ∧ H t = some (.tup (ms.map V.int)) ∧ ms.length ≤ b
theorem WayIn.to {H H' : Hp} {b b' : Nat} {p : Key × V} (h : WayIn H b p) (t : Tk H H') (hb : b ≤ b') : WayIn H' b' p := by
  obtain ⟨a, ms, e, ha, hl⟩ := h
  exact ⟨a, ms, e, t _ _ ha, by omega⟩
theorem mem_putK {kvs : List (Key × V)} {k : Key} {v : V} {p : Key × V} (h : p ∈ putK kvs k v) : p.2 = v ∨ p ∈ kvs := by
  unfold putK at h
  split at h
  · obtain ⟨q, hq, rfl⟩ := List.mem_map.mp h
    by_cases e : q.1 = k
    · rw [if_pos e]; exact .inl rfl
    · rw [if_neg e]; exact .inr hq
  · rcases List.mem_append.mp h with h | h
    · exact .inr h
    · rw [List.mem_singleton] at h; subst h; exact .inl rfl
theorem putK_same {kvs : List (Key × V)} {ks : List Int} {n : Int} {v : V} (h : kvs.map (·.1) = ks.map Sum.inl) (hn : n ∈ ks) : (putK kvs (.inl n) v).map (·.1) = ks.map Sum.inl := by
  have e : (valV kvs (.inl n)).isSome = true := by rw [keys_has h]; exact decide_eq_true hn
  unfold putK
  rw [valV_any, e]
  show ((kvs.map fun kv => if kv.1 = .inl n then (kv.1, v) else kv).map (·.1)) = _
  rw [List.map_map, ← h]
  refine List.map_congr_left fun kv _ => ?_
  show (if kv.1 = .inl n then (kv.1, v) else kv).1 = kv.1
  split <;> rfl
theorem nodup_snoc {ks : List Int} {n : Int} (h : ks.Nodup) (hn : n ∉ ks) : (ks ++ [n]).Nodup := List.nodup_append.mpr ⟨h, by simp, fun x hx y hy e => by simp at hy; subst hy; subst e; exact hn hx⟩
def RootIn (H : Hp) (kv : Key × V) (r : Int) : Prop := kv.1 = .inl r ∧ ∃ u, kv.2 = .ref u ∧ H u = some (.tup [.int r])
theorem merge_ways {H : Hp} : ∀ {more : List (Key × V)} {rs : List Int}, Paired (RootIn H) more rs → ∀ {acc : List (Key × V)} {ks : List Int}, acc.map (·.1) = ks.map Sum.inl → ks.Nodup → (∀ p ∈ acc, WayIn H 1 p) →
    ∃ ks' : List Int, (mergeK acc more).map (·.1) = ks'.map Sum.inl ∧ ks'.Nodup ∧ (∀ p ∈ mergeK acc more, WayIn H 1 p) ∧ ∀ k, k ∈ ks' ↔ k ∈ ks ∨ k ∈ rs
  | _, _, .nil, acc, ks, h1, h2, h3 => ⟨ks, h1, h2, h3, fun k => by simp⟩
  | kv :: more, r :: rs, .cons ⟨e, u, e2, hu⟩ t, acc, ks, h1, h2, h3 => by
    have h3' : ∀ p ∈ putK acc kv.1 kv.2, WayIn H 1 p := fun p hp => by
      rcases mem_putK hp with h | h
      · exact ⟨u, [r], by rw [h, e2], hu, Nat.le_refl _⟩
      · exact h3 p h
    show ∃ ks' : List Int, (mergeK (putK acc kv.1 kv.2) more).map (·.1) = _ ∧ _ ∧ (∀ p ∈ mergeK (putK acc kv.1 kv.2) more, _) ∧ _
    rw [e] at h3' ⊢
    by_cases hr : r ∈ ks
    · obtain ⟨ks', a, b, c, d⟩ := merge_ways t (putK_same h1 hr) h2 h3'
      exact ⟨ks', a, b, c, fun k => by rw [d k, List.mem_cons]; exact ⟨fun h => h.elim .inl fun z => .inr (.inr z), fun h => h.elim .inl fun z => z.elim (fun z => .inl (z ▸ hr)) .inr⟩⟩
    · obtain ⟨k1, k2⟩ := keys_put (v := kv.2) h1 hr
      rw [k1] at h3' ⊢
      obtain ⟨ks', a, b, c, d⟩ := merge_ways t k2 (nodup_snoc h2 hr) h3'
      exact ⟨ks', a, b, c, fun k => by rw [d k, List.mem_append, List.mem_singleton, List.mem_cons]; exact or_assoc⟩
theorem pairs_of {K : PySem.W.Frag} {H : Hp} : ∀ {ys : List V} {roots : List Int}, ys.length = roots.length → (∀ (i : Nat) y, ys[i]? = some y → ∃ t u r, y = .ref t ∧ roots[i]? = some r ∧ H t = some (.tup [.int r, .ref u]) ∧ H u = some (.tup [.int r])) →
    ∃ (ps : List Addr) (kvs : List (Key × V)), ys = ps.map V.ref ∧ Paired (fun p kv => SqT K H p [kV kv.1, kv.2]) ps kvs ∧ Paired (RootIn H) kvs roots
  | [], [], _, _ => ⟨[], [], rfl, .nil, .nil⟩
  | y :: ys, r :: rs, hl, h => by
    obtain ⟨t, u, r', e1, e2, e3, e4⟩ := h 0 y rfl
    simp only [List.getElem?_cons_zero, Option.some.injEq] at e2
    subst e2
    obtain ⟨ps, kvs, f1, f2, f3⟩ := pairs_of (K := K) (Nat.succ.inj hl) fun i y hy => h (i + 1) y hy
    exact ⟨t :: ps, (.inl r, .ref u) :: kvs, by rw [e1, f1]; rfl, .cons (.of e3) f2, .cons ⟨rfl, u, rfl, e4⟩ f3⟩
def WSt (H0 : Hp) (cs : List (Int × List Int)) (roots : List Int) (d : Addr) (H' : Hp) (ks : List Int) : Prop :=
  ∃ kvs, H' d = some (.dK kvs) ∧ kvs.map (·.1) = ks.map Sum.inl ∧ ks.Nodup ∧ (∀ p ∈ kvs, WayIn H' (ks.length + 1) p) ∧ (∀ k ∈ ks, k ∈ nums cs) ∧ (∀ r ∈ roots, r ∈ ks) ∧ Same H0 H'
def Clo (cs : List (Int × List Int)) (ks : List Int) : Prop := ∀ a ∈ ks, ∀ b ∈ look cs a, b ∈ ks
section
variable {H0 H H' : Hp} {cs : List (Int × List Int)} {roots ks : List Int} {d : Addr}
theorem WSt.same (h : WSt H0 cs roots d H ks) (s : Same H H') : WSt H0 cs roots d H' ks := by
  obtain ⟨kvs, h1, h2, h3, h4, h5, h6, h7⟩ := h
  exact ⟨kvs, s _ _ h1, h2, h3, fun p hp => (h4 p hp).to (Same.tk s) (Nat.le_refl _), h5, h6, h7.trans s⟩
theorem valV_in {kvs : List (Key × V)} {k : Key} {v : V} (h : valV kvs k = some v) : ∃ p ∈ kvs, p.1 = k ∧ p.2 = v := by
  unfold valV at h
  obtain ⟨p, h1, h2⟩ := Option.map_eq_some_iff.mp h
  exact ⟨p, List.mem_of_find?_eq_some h1, by simpa using List.find?_some h1, h2⟩
theorem WSt.get (h : WSt H0 cs roots d H ks) {n : Int} (hn : n ∈ ks) : ∃ (kvs : List (Key × V)) (t : Addr) (ms : List Int), H d = some (.dK kvs) ∧ valV kvs (.inl n) = some (.ref t) ∧ H t = some (.tup (ms.map V.int)) ∧ ms.length ≤ ks.length + 1 := by
  obtain ⟨kvs, h1, h2, h3, h4, h5, h6, h7⟩ := h
  have := keys_has (n := n) h2
  rw [decide_eq_true hn] at this
  obtain ⟨v, hv⟩ := Option.isSome_iff_exists.mp this
  obtain ⟨p, hp, _, e⟩ := valV_in hv
  obtain ⟨t, ms, e1, e2, e3⟩ := h4 p hp
  exact ⟨kvs, t, ms, h1, by rw [hv, ← e, e1], e2, e3⟩
theorem WSt.put (h : WSt H0 cs roots d H ks) {n : Int} (hn : n ∉ ks) (hnn : n ∈ nums cs) {t : Addr} {ms : List Int} (ht : H t = some (.tup (ms.map V.int))) (hm : ms.length ≤ ks.length + 2) (hd : H0 d = none) {kvs : List (Key × V)} (ed : H d = some (.dK kvs)) (e : H' d = some (.dK (putK kvs (.inl n) (.ref t)))) (c : Chg d H H') :
    WSt H0 cs roots d H' (ks ++ [n]) := by
  obtain ⟨kvs', h1, h2, h3, h4, h5, h6, h7⟩ := h
  rw [ed] at h1
  cases h1
  obtain ⟨k1, k2⟩ := keys_put (v := .ref t) h2 hn
  have tk : Tk H H' := c.tk fun xs z => by rw [ed] at z; cases z
  refine ⟨_, e, by rw [k1]; exact k2, nodup_snoc h3 hn, fun p hp => ?_, fun k hk => ?_, fun r hr => List.mem_append_left _ (h6 r hr), Same.chg h7 hd c⟩
  · rw [List.length_append, List.length_singleton]
    rcases mem_putK hp with z | z
    · exact ⟨t, ms, z, tk _ _ ht, by omega⟩
    · exact (h4 p z).to tk (by omega)
  · rcases List.mem_append.mp hk with z | z
    · exact h5 k z
    · rw [List.mem_singleton] at z; subst z; exact hnn
theorem WSt.le (h : WSt H0 cs roots d H ks) (hc : cs.length ≤ 14) : ks.length ≤ cs.length := by
  obtain ⟨kvs', h1, h2, h3, h4, h5, h6, h7⟩ := h
  have := nodup_leS ks (nums cs) h3 h5
  unfold nums at this
  rwa [List.length_map] at this
end
def spWay : Sp := fun vs H Q _ => ∃ (ca ra : Addr) (cs : List (Int × List Int)) (roots : List Int) (n : Int), vs = [.ref ca, .ref ra, .int n] ∧ CellsAt H ca cs ∧ H ra = some (.lst (roots.map V.int)) ∧ (∀ r ∈ roots, r ∈ nums cs) ∧ roots.length ≤ 100 ∧ Reach cs roots n ∧
  ∀ (t : Addr) (ms : List Int) (H' : Hp), H' t = some (.tup (ms.map V.int)) → ms.length ≤ 15 → Same H H' → Q (.ref t) H'
theorem pure_way {K : PySem.W.Frag} {w : World} : PureOk 3 spWay (t_law_way K w spNamedBy) 8 := by
  refine ⟨fun vs H Q E ⟨_, _, _, _, _, e, _⟩ => by rw [e]; rfl, ?_⟩
  rintro vs H Q E ⟨ca, ra, cs, roots, n, rfl, hC, era, hr, hl, hn, q⟩
  show t_law_way K w _ _ [some (.ref ca), some (.ref ra), some (.int n), none, none, none, none, none] H
  unfold t_law_way
  walk_at "gg"
  refine g_seqL ?_
  walk_at "gg"
  refine lc_mapL era (by rw [List.length_map]; omega) (fun i y H' => ∃ t u r, y = .ref t ∧ roots[i]? = some r ∧ H' t = some (.tup [.int r, .ref u]) ∧ H' u = some (.tup [.int r]))
    (fun i y H1 H2 k ⟨t, u, r, a, b, c, e⟩ => ⟨t, u, r, a, b, k _ _ c, k _ _ e⟩) ?_ ?_
  · intro i x H1 Nx hx s1 hN
    rw [List.getElem?_map] at hx
    obtain ⟨r, hri, rfl⟩ := Option.map_eq_some_iff.mp hx
    walk_at "gg"
    refine ⟨rfl, ?_⟩
    walk_at "gg"
    rename_i u H2 n2 e2 s2 t H3 n3 e3 s3
    exact hN _ _ (s2.trans s3) ⟨t, u, r, rfl, hri, e3, s3 _ _ e2⟩
  intro D ys H1 nD eD hyl hF s1
  rw [List.length_map] at hyl
  obtain ⟨ps, kvs0, rfl, f2, f3⟩ := pairs_of (K := K) hyl hF
  walk_at "gg"
  refine ⟨D, ps, kvs0, rfl, .of eD, f2, ?_⟩
  walk_at "gg"
  rename_i d H2 n2 e2 s2
  have hd : H d = none := s1.free n2
  have f3' : Paired (RootIn H2) kvs0 roots := prd_imp (fun kv r ⟨a, u, b, c⟩ => ⟨a, u, b, s2 _ _ c⟩) f3
  obtain ⟨ks0, m1, m2, m3, m4⟩ := merge_ways f3' (acc := []) (ks := []) rfl List.nodup_nil (by simp)
  have hW0 : WSt H cs roots d H2 ks0 := ⟨_, e2, m1, m2, fun p hp => (m3 p hp).to (Tk.refl _) (by omega), fun k hk => hr k (((m4 k).mp hk).resolve_left (by simp)), fun r h => (m4 r).mpr (.inr h), s1.trans s2⟩
  obtain ⟨kvsC, hkC, hpC⟩ := (hC.same (s1.trans s2)).ex
  have hlC : kvsC.length = cs.length := Paired.length hpC
  refine .inr ⟨ca, kvsC, rfl, .of hkC, ?_⟩
  walk_at "gg"
  rw [hlC]
  have hc14 := hC.few
  refine g_isrng (by omega) (by omega) ?_
  rw [Int.toNat_natCast]
  refine for_any cs.length (fun i σ H' => ∃ (x4 x5 x6 x7 : Option V) (ks : List Int), σ = [some (.ref ca), some (.ref ra), some (.int n), some (.ref d), x4, x5, x6, x7] ∧ WSt H cs roots d H' ks ∧ (Clo cs ks ∨ i ≤ ks.length)) ⟨_, _, _, _, ks0, rfl, hW0, .inr (Nat.zero_le _)⟩
    (fun i σ H' hi _ => hi) (fun σ H' _ => Nat.le_refl _) ?_ ?_
  · rintro i x σ H3 _ hi ⟨x4, x5, x6, x7, ks, rfl, hW, hor⟩ ⟨rfl, rfl⟩
    obtain ⟨kvs, w1, w2, w3, w4, w5, w6, w7⟩ := id hW
    walk_at "gg"
    refine g_seqL ?_
    walk_at "gg"
    have hkl := hW.le hc14
    refine g_sortD ks w1 w2 (by omega) fun ys p4 H4 yp ysr n4 e4 s4 => ?_
    walk_at "gg"
    have hyk : ∀ a, a ∈ ys ↔ a ∈ ks := fun a => yp.mem_iff
    refine for_any ys.length (fun j σ H' => ∃ (x5 x6 x7 : Option V) (ex : List Int), σ = [some (.ref ca), some (.ref ra), some (.int n), some (.ref d), x4, x5, x6, x7] ∧ WSt H cs roots d H' (ks ++ ex) ∧ H' p4 = some (.lst (ys.map V.int)) ∧ (∀ a ∈ ys.take j, ∀ b ∈ look cs a, b ∈ ks ++ ex) ∧ (Clo cs ks → ex = []))
      ⟨_, x6, x7, [], rfl, by simpa using hW.same s4, e4, by simp, fun _ => rfl⟩
      (fun j σ H' hj ⟨_, _, _, _, _, _, e, _⟩ => ⟨_, _, .of e, List.getElem?_eq_getElem (by rw [List.length_map]; exact hj)⟩) (fun σ H' ⟨_, _, _, _, _, _, e, _⟩ => ⟨_, .of e, by rw [List.length_map]; exact Nat.le_refl _⟩) ?_ ?_
    · rintro j x σ _ H5 hj ⟨x5, x6, x7, ex, rfl, hW5, e5, hin, hex⟩ ⟨rfl, hx⟩
      have hxa := hx _ (.of e5)
      rw [List.getElem?_map, List.getElem?_eq_getElem hj] at hxa
      cases hxa
      generalize hya : ys[j] = a at *
      have hak : a ∈ ks := (hyk a).mp (hya ▸ List.getElem_mem hj)
      have haC : a ∈ nums cs := w5 a hak
      have hS5 : Same H H5 := by
        obtain ⟨_, _, _, _, _, _, _, z⟩ := id hW5
        exact z
      have hdp : p4 ≠ d := fun e => by
        obtain ⟨_, z, _⟩ := id hW5
        subst e; rw [e5] at z; cases z
      walk_at "gg"
      refine g_seqL ?_
      walk_at "gg"
      refine g_ixC (hC.same hS5) haC fun v hv hvl => ?_
      walk_at "gg"
      refine ⟨v, _, rfl, hv, hvl, fun p6 H6 n6 e6 s6 => ?_⟩
      walk_at "gg"
      refine for_any (look cs a).length (fun k σ H' => ∃ (x7 : Option V) (ex : List Int), σ = [some (.ref ca), some (.ref ra), some (.int n), some (.ref d), x4, x5, some (.int a), x7] ∧ WSt H cs roots d H' (ks ++ ex) ∧ H' p4 = some (.lst (ys.map V.int)) ∧ H' p6 = some (.lst ((look cs a).map V.int)) ∧
          (∀ a ∈ ys.take j, ∀ b ∈ look cs a, b ∈ ks ++ ex) ∧ (∀ b ∈ (look cs a).take k, b ∈ ks ++ ex) ∧ (Clo cs ks → ex = []))
        ⟨x7, ex, rfl, hW5.same s6, s6 _ _ e5, e6, hin, by simp, hex⟩
        (fun k σ H' hk ⟨_, _, _, _, _, e, _⟩ => ⟨_, _, .of e, List.getElem?_eq_getElem (by rw [List.length_map]; exact hk)⟩) (fun σ H' ⟨_, _, _, _, _, e, _⟩ => ⟨_, .of e, by rw [List.length_map]; exact Nat.le_refl _⟩) ?_ ?_
      · rintro k x σ _ H7 hk ⟨x7, ex, rfl, hW7, e7, e7', hin7, hin7', hex7⟩ ⟨rfl, hx⟩
        have hxb := hx _ (.of e7')
        rw [List.getElem?_map, List.getElem?_eq_getElem hk] at hxb
        cases hxb
        generalize hyb : (look cs a)[k] = b at *
        have hbl : b ∈ look cs a := hyb ▸ List.getElem_mem hk
        have hbC := (hC.lk hbl).2
        have htk : (look cs a).take (k + 1) = (look cs a).take k ++ [b] := by rw [List.take_add_one, List.getElem?_eq_getElem hk, hyb]; rfl
        obtain ⟨kvs7, t7, ms7, u1, u2, u3, u4⟩ := hW7.get (n := a) (List.mem_append_left _ hak)
        obtain ⟨kvs7', v1, v2, v3, v4, v5, v6, v7⟩ := id hW7
        rw [u1] at v1
        cases v1
        walk_at "gg"
        refine g_notDI u1 ?_
        rw [keys_has v2]
        walk_at "gg"
        by_cases hc : b ∈ ks ++ ex
        · rw [decide_eq_true hc]
          refine g_F rfl ⟨_, ex, rfl, hW7, e7, e7', hin7, fun b' hb' => ?_, hex7⟩
          rw [htk, List.mem_append, List.mem_singleton] at hb'
          rcases hb' with z | rfl
          · exact hin7' _ z
          · exact hc
        · rw [decide_eq_false hc]
          refine g_T rfl ?_
          walk_at "gg"
          refine g_ixD u1 (k := .inl a) rfl u2 ?_
          walk_at "gg"
          rename_i p8 H8 n8 e8 s8
          have h15 := hW7.le hc14
          refine g_addTn (s8 _ _ u3) e8 (by show _ ≤ 16777216; rw [List.length_map, List.length_singleton]; omega) (by simp) fun c H9 e9 s9 => ?_
          walk_at "gg"
          have hkv : kvs7.length ≤ 14 := by
            have := congrArg List.length v2
            rw [List.length_map, List.length_map] at this
            omega
          refine g_setK (s9 _ _ (s8 _ _ u1)) (k := .inl b) rfl (by show _ < 16777216; omega) fun H10 e10 c10 => ?_
          have hpd : p6 ≠ d := fun e => by subst e; rw [e7'] at u1; cases u1
          have hW10 := ((hW7.same s8).same s9).put hc hbC (ms := ms7 ++ [b]) (by rw [e9, List.map_append]; rfl) (by rw [List.length_append, List.length_singleton]; omega) hd (s9 _ _ (s8 _ _ u1)) e10 c10
          rw [List.append_assoc] at hW10
          refine ⟨_, ex ++ [b], rfl, hW10, c10 _ _ hdp (s9 _ _ (s8 _ _ e7)), c10 _ _ hpd (s9 _ _ (s8 _ _ e7')), fun a' ha' b' hb' => ?_, fun b' hb' => ?_, fun hcl => absurd (List.mem_append_left ex (hcl a hak b hbl)) hc⟩
          · rw [← List.append_assoc]; exact List.mem_append_left _ (hin7 a' ha' b' hb')
          · rw [← List.append_assoc]
            rw [htk, List.mem_append] at hb'
            rcases hb' with z | z
            · exact List.mem_append_left _ (hin7' _ z)
            · exact List.mem_append_right _ z
      · rintro σ H7 ⟨x7, ex, rfl, hW7, e7, e7', hin7, hin7', hex7⟩
        refine ⟨_, _, _, ex, rfl, hW7, e7, fun a' ha' b' hb' => ?_, hex7⟩
        rw [List.take_add_one, List.getElem?_eq_getElem hj, hya, List.mem_append] at ha'
        rcases ha' with z | z
        · exact hin7 a' z b' hb'
        · simp only [Option.toList_some, List.mem_singleton] at z
          subst z
          exact hin7' b' (by rw [List.take_length]; exact hb')
    · rintro σ H5 ⟨x5, x6, x7, ex, rfl, hW5, e5, hin, hex⟩
      refine ⟨_, _, _, _, ks ++ ex, rfl, hW5, ?_⟩
      rw [List.take_length] at hin
      cases ex with
      | nil =>
        left
        intro a ha b hb
        exact hin a ((hyk a).mpr (by simpa using ha)) b hb
      | cons z ex =>
        rcases hor with h | h
        · exact absurd (hex h) (by simp)
        · right
          rw [List.length_append, List.length_cons]
          omega
  · rintro σ H3 ⟨x4, x5, x6, x7, ks, rfl, hW, hor⟩
    obtain ⟨kvs, t, ms, u1, u2, u3, u4⟩ := hW.get (n := n) (by
      obtain ⟨kvs, w1, w2, w3, w4, w5, w6, w7⟩ := id hW
      rcases hor with h | h
      · exact hn (· ∈ ks) w6 h
      · exact nodup_all w3 w5 (by unfold nums; rw [List.length_map]; exact h) n (hn.num hC hr))
    obtain ⟨kvs', w1, w2, w3, w4, w5, w6, w7⟩ := id hW
    have := hW.le hc14
    walk_at "gg"
    refine g_ixD u1 (k := .inl n) rfl u2 ?_
    exact q t ms H3 u3 (by omega) w7

/-! ### comprehensions of truths, comprehensions that leave out -/
section
variable {K : PySem.W.Frag} {H1 : Hp} {J : It} {g : TG} {tt : TT} {te : TE} {vs : List Nat} {σ : L2.St} {a : Addr} {xs : List V} {Qd : Addr → Hp → Prop}
theorem lc_bools (n : Nat) (hn : n ≤ 100000) (R : Nat → Prop) (hgo : ∀ i H', i < n → Same H1 H' → J.go i H') (hstop : ∀ H', Same H1 H' → J.stop n H')
    (hs : ∀ i x H' H2 (Nx : V → Hp → Prop), i < n → Same H1 H' → J.yld i H' x H2 → (∀ (c : Bool) H4, (c = true ↔ R i) → Same H' H4 → Nx (.bl c) H4) → g x (wipe σ vs) H2 fun σ2 H3 => wipe σ2 vs = wipe σ vs ∧ te σ2 H3 Nx)
    (hd : ∀ D (bs : List Bool) H', Fr H1 D → H' D = some (.lst (bs.map V.bl)) → bs.length = n → (∀ (i : Nat) c, bs[i]? = some c → (c = true ↔ R i)) → Same H1 H' → Qd D H') : LcR J g tYes te vs σ H1 Qd := by
  intro D hD
  refine lc_any n (fun i acc H' => ∃ bs : List Bool, acc = bs.map V.bl ∧ bs.length = i ∧ (∀ (k : Nat) c, bs[k]? = some c → (c = true ↔ R k)) ∧ Same H1 H') hD (fun H' _ s => ⟨[], rfl, rfl, by simp, s⟩)
    (fun i acc H' hi ⟨_, _, _, _, s⟩ => hgo i H' hi s) (fun acc H' ⟨_, _, _, _, s⟩ => hstop H' s) ?_ ?_
  · rintro i x acc H2 H3 hi hla ⟨bs, rfl, hbl, hbs, s2⟩ hd2 hy
    refine hs i x _ _ _ hi s2 hy fun c H4 hc s4 => ?_
    refine lc_step (s4 _ _ hd2) hla (by show _ < 16777216; omega) fun H5 e5 c5 => ?_
    refine ⟨bs ++ [c], by simp, by simp [hbl], fun k c' hk => ?_, Same.chg (s2.trans s4) hD c5⟩
    by_cases hkl : k < bs.length
    · rw [List.getElem?_append_left hkl] at hk
      exact hbs k c' hk
    · have hk2 : k < (bs ++ [c]).length := (List.getElem?_eq_some_iff.mp hk).1
      rw [List.length_append, List.length_singleton] at hk2
      have : k = bs.length := by omega
      subst this
      rw [List.getElem?_append_right (Nat.le_refl _), Nat.sub_self] at hk
      cases hk
      rw [hbl]
      exact hc
  · rintro acc H4 hd4 ⟨bs, rfl, hbl, hbs, s4⟩
    exact hd D bs H4 hD hd4 hbl hbs s4
theorem all_bools {n : Nat} {bs : List Bool} {R : Nat → Prop} (h1 : bs.length = n) (h2 : ∀ (i : Nat) c, bs[i]? = some c → (c = true ↔ R i)) : bs.all id = true ↔ ∀ i, i < n → R i := by
  rw [List.all_eq_true]
  constructor
  · intro h i hi
    have hb : i < bs.length := by omega
    exact (h2 i bs[i] (List.getElem?_eq_getElem hb)).mp (h _ (List.getElem_mem hb))
  · intro h c hc
    obtain ⟨i, hi, rfl⟩ := List.getElem_of_mem hc
    exact (h2 i _ (List.getElem?_eq_getElem hi)).mpr (h i (by omega))
theorem lc_filt (n : Nat) (hn : n ≤ 100000) (R : Nat → Prop) (hgo : ∀ i H', i < n → Same H1 H' → J.go i H') (hstop : ∀ H', Same H1 H' → J.stop n H')
    (hs : ∀ i x H' H2 (Na : V → Hp → Prop) (Nb : Hp → Prop), i < n → Same H1 H' → J.yld i H' x H2 → (∀ y H4, R i → Same H' H4 → Na y H4) → (∀ H4, ¬ R i → Same H' H4 → Nb H4) →
      g x (wipe σ vs) H2 fun σ2 H3 => wipe σ2 vs = wipe σ vs ∧ tt σ2 H3 fun b H4 => if b = true then te σ2 H4 Na else Nb H4)
    (hd : ∀ D (ys : List V) H', Fr H1 D → H' D = some (.lst ys) → (ys.isEmpty = true ↔ ∀ i, i < n → ¬ R i) → Same H1 H' → Qd D H') : LcR J g tt te vs σ H1 Qd := by
  intro D hD
  refine lc_any n (fun i acc H' => (acc.isEmpty = true ↔ ∀ k, k < i → ¬ R k) ∧ Same H1 H') hD (fun H' _ s => ⟨by simp, s⟩)
    (fun i acc H' hi ⟨_, s⟩ => hgo i H' hi s) (fun acc H' ⟨_, s⟩ => hstop H' s) ?_ ?_
  · rintro i x acc H2 H3 hi hla ⟨hb, s2⟩ hd2 hy
    refine hs i x _ _ _ _ hi s2 hy (fun y H4 hR s4 => ?_) fun H4 hR s4 => ?_
    · refine lc_step (s4 _ _ hd2) hla (by show _ < 16777216; omega) fun H5 e5 c5 => ?_
      exact ⟨⟨fun h => by simp at h, fun h => absurd hR (h i (Nat.lt_succ_self _))⟩, Same.chg (s2.trans s4) hD c5⟩
    · refine ⟨acc, s4 _ _ hd2, by omega, ⟨fun h k hk => ?_, fun h => hb.mpr fun k hk => h k (by omega)⟩, s2.trans s4⟩
      by_cases e : k = i
      · rw [e]; exact hR
      · exact hb.mp h k (by omega)
  · rintro acc H4 hd4 ⟨hb, s4⟩
    exact hd D acc H4 hD hd4 hb s4
theorem lc_filtT (ea : H1 a = some (.tup xs)) (hl : xs.length ≤ 100000) (R : Nat → Prop)
    (hs : ∀ (i : Nat) x H' (Na : V → Hp → Prop) (Nb : Hp → Prop), xs[i]? = some x → Same H1 H' → (∀ y H4, R i → Same H' H4 → Na y H4) → (∀ H4, ¬ R i → Same H' H4 → Nb H4) →
      g x (wipe σ vs) H' fun σ2 H3 => wipe σ2 vs = wipe σ vs ∧ tt σ2 H3 fun b H4 => if b = true then te σ2 H4 Na else Nb H4)
    (hd : ∀ D (ys : List V) H', Fr H1 D → H' D = some (.lst ys) → (ys.isEmpty = true ↔ ∀ i, i < xs.length → ¬ R i) → Same H1 H' → Qd D H') : LcR (Itt K a) g tt te vs σ H1 Qd :=
  lc_filt xs.length hl R (fun i H' hi s => ⟨_, _, .of (s _ _ ea), List.getElem?_eq_getElem hi⟩) (fun H' s => ⟨_, .of (s _ _ ea), Nat.le_refl _⟩)
    (fun i x H' H2 Na Nb hi s ⟨e, hx⟩ h1 h2 => by subst e; exact hs i x _ Na Nb (hx _ (.of (s _ _ ea))) s h1 h2) hd
theorem lc_filtL (ea : H1 a = some (.lst xs)) (hl : xs.length ≤ 100000) (R : Nat → Prop)
    (hs : ∀ (i : Nat) x H' (Na : V → Hp → Prop) (Nb : Hp → Prop), xs[i]? = some x → Same H1 H' → (∀ y H4, R i → Same H' H4 → Na y H4) → (∀ H4, ¬ R i → Same H' H4 → Nb H4) →
      g x (wipe σ vs) H' fun σ2 H3 => wipe σ2 vs = wipe σ vs ∧ tt σ2 H3 fun b H4 => if b = true then te σ2 H4 Na else Nb H4)
    (hd : ∀ D (ys : List V) H', Fr H1 D → H' D = some (.lst ys) → (ys.isEmpty = true ↔ ∀ i, i < xs.length → ¬ R i) → Same H1 H' → Qd D H') : LcR (Itl K a) g tt te vs σ H1 Qd :=
  lc_filt xs.length hl R (fun i H' hi s => ⟨_, _, .of (s _ _ ea), List.getElem?_eq_getElem hi⟩) (fun H' s => ⟨_, .of (s _ _ ea), Nat.le_refl _⟩)
    (fun i x H' H2 Na Nb hi s ⟨e, hx⟩ h1 h2 => by subst e; exact hs i x _ Na Nb (hx _ (.of (s _ _ ea))) s h1 h2) hd
theorem lc_boolsL (ea : H1 a = some (.lst xs)) (hl : xs.length ≤ 100000) (R : Nat → Prop)
    (hs : ∀ (i : Nat) x H' (Nx : V → Hp → Prop), xs[i]? = some x → Same H1 H' → (∀ (c : Bool) H4, (c = true ↔ R i) → Same H' H4 → Nx (.bl c) H4) → g x (wipe σ vs) H' fun σ2 H3 => wipe σ2 vs = wipe σ vs ∧ te σ2 H3 Nx)
    (hd : ∀ D (bs : List Bool) H', Fr H1 D → H' D = some (.lst (bs.map V.bl)) → bs.length = xs.length → (∀ (i : Nat) c, bs[i]? = some c → (c = true ↔ R i)) → Same H1 H' → Qd D H') : LcR (Itl K a) g tYes te vs σ H1 Qd :=
  lc_bools xs.length hl R (fun i H' hi s => ⟨_, _, .of (s _ _ ea), List.getElem?_eq_getElem hi⟩) (fun H' s => ⟨_, .of (s _ _ ea), Nat.le_refl _⟩)
    (fun i x H' H2 Nx hi s ⟨e, hx⟩ h1 => by subst e; exact hs i x _ Nx (hx _ (.of (s _ _ ea))) s h1) hd
end
/-! ### things of any kind: how wide they are -/
inductive Few (n : Nat) : PyData → Prop
  | tup {ds : List PyData} : ds.length ≤ n → (∀ d ∈ ds, Few n d) → Few n (.tuple ds)
  | oth {d : PyData} : isTupD d = false → Few n d
theorem Few.up {n m : Nat} {d : PyData} (h : Few n d) (hm : n ≤ m) : Few m d := by
  induction h with
  | tup hl _ ih => exact .tup (by omega) ih
  | oth h => exact .oth h
theorem Few.out {n : Nat} {ds : List PyData} (h : Few n (.tuple ds)) : ds.length ≤ n ∧ ∀ d ∈ ds, Few n d := by
  cases h with
  | tup a b => exact ⟨a, b⟩
  | oth h => cases h
/-! ### what is right -/
/-- the first i things are cells, each named by the one ahead, the first one a root -/
def OkTo (cs : List (Int × List Int)) (roots : List Int) (ds : List PyData) (i : Nat) : Prop :=
  ∃ ms : List Int, ds.take i = ms.map PyData.int ∧ (∀ m ∈ ms, m ∈ nums cs) ∧ (∀ m, ms[0]? = some m → m ∈ roots) ∧ ∀ (j : Nat) a b, ms[j]? = some a → ms[j + 1]? = some b → b ∈ look cs a
def WayP (cs : List (Int × List Int)) (roots : List Int) (d : PyData) (n : Int) : Prop := ∃ ds, d = .tuple ds ∧ ds ≠ [] ∧ ds.getLast? = some (.int n) ∧ OkTo cs roots ds ds.length
/-- the first i things are cells, rising -/
def UpTo (cs : List (Int × List Int)) (ds : List PyData) (i : Nat) : Prop := ∃ ms : List Int, ds.take i = ms.map PyData.int ∧ (∀ m ∈ ms, m ∈ nums cs) ∧ ms.Pairwise (· < ·)
def KeptP (cs : List (Int × List Int)) (roots : List Int) (d : PyData) : Prop :=
  ∃ ns : List Int, d = .tuple (ns.map PyData.int) ∧ (∀ n ∈ ns, n ∈ nums cs) ∧ ns.Pairwise (· < ·) ∧ (∀ n ∈ ns, ∀ m ∈ look cs n, m ∈ ns) ∧ ∀ r ∈ roots, r ∈ ns
def SweepP (cs : List (Int × List Int)) (roots : List Int) (d : PyData) : Prop :=
  ∃ (k : PyData) (ns : List Int) (ws : List PyData), d = .tuple [k, .tuple ws] ∧ k = .tuple (ns.map PyData.int) ∧ KeptP cs roots k ∧ ws.length = ns.length ∧ ∀ (i : Nat) w n, ws[i]? = some w → ns[i]? = some n → WayP cs roots w n
theorem map_int_inj : ∀ {a b : List Int}, a.map PyData.int = b.map PyData.int → a = b
  | [], [], _ => rfl
  | [], _ :: _, h => by cases h
  | _ :: _, [], h => by cases h
  | x :: a, y :: b, h => by
    simp only [List.map_cons, List.cons.injEq, PyData.int.injEq] at h
    rw [h.1, map_int_inj h.2]
theorem jq_int {H : Hp} {v : V} {m : Int} (h : Jq H v (.int m)) : v = .int m := by cases h; rfl
theorem jqs_ints {H : Hp} : ∀ {ms : List Int} {xs : List V}, Jqs H xs (ms.map PyData.int) → xs = ms.map V.int
  | [], _, h => by cases h; rfl
  | m :: ms, _, h => by
    cases h with
    | cons a r => rw [jq_int a, jqs_ints r]; rfl
theorem all_int {ds : List PyData} (h : ∀ (i : Nat) (d : PyData), ds[i]? = some d → ∃ m : Int, d = .int m) : ∃ ms : List Int, ds = ms.map PyData.int := by
  induction ds with
  | nil => exact ⟨[], rfl⟩
  | cons d ds ih =>
    obtain ⟨m, rfl⟩ := h 0 d rfl
    obtain ⟨ms, rfl⟩ := ih fun i d hd => h (i + 1) d hd
    exact ⟨m :: ms, rfl⟩
/-- a whole number, no truth -/
def isWh : PyData → Bool
  | .int _ => true
  | _ => false
theorem isWh_iff {d : PyData} : isWh d = true ↔ ∃ m, d = .int m := by
  cases d <;> simp [isWh]
theorem isWh_eq {H : Hp} {v : V} {d : PyData} (h : Jq H v d) : isWh d = (isIntD d && !isBoolD d) := by cases h <;> rfl
section
variable {cs : List (Int × List Int)} {roots : List Int} {ds : List PyData} {i j : Nat} {d : PyData}
theorem OkTo.le (h : OkTo cs roots ds j) (hij : i ≤ j) : OkTo cs roots ds i := by
  obtain ⟨ms, h1, h2, h3, h4⟩ := h
  refine ⟨ms.take i, ?_, fun m hm => h2 m (List.mem_of_mem_take hm), fun m hm => ?_, fun k a b ha hb => ?_⟩
  · rw [List.map_take, ← h1, List.take_take, Nat.min_eq_left hij]
  · rw [List.getElem?_take] at hm
    split at hm
    · exact h3 m hm
    · cases hm
  · rw [List.getElem?_take] at ha hb
    split at hb
    · rw [if_pos (by omega)] at ha
      exact h4 k a b ha hb
    · cases hb
theorem take_snoc (h : ds[i]? = some d) : ds.take (i + 1) = ds.take i ++ [d] := by rw [List.take_add_one, h]; rfl
theorem map_snoc_inv {ms : List Int} {e : List PyData} (h : e ++ [d] = ms.map PyData.int) : ∃ (ms0 : List Int) (m : Int), ms = ms0 ++ [m] ∧ e = ms0.map PyData.int ∧ d = .int m := by
  rcases nil_snoc ms with rfl | ⟨ms0, m, rfl⟩
  · simp at h
  · rw [List.map_append] at h
    obtain ⟨h1, h2⟩ := List.append_inj' h rfl
    simp only [List.map_cons, List.map_nil, List.cons.injEq, and_true] at h2
    exact ⟨ms0, m, rfl, h1, h2⟩
theorem OkTo.step (hi : ds[i]? = some d) : OkTo cs roots ds (i + 1) ↔ OkTo cs roots ds i ∧ ∃ m, d = .int m ∧ m ∈ nums cs ∧ (i = 0 → m ∈ roots) ∧ ∀ k a, i = k + 1 → ds[k]? = some (.int a) → m ∈ look cs a := by
  have hil : i < ds.length := (List.getElem?_eq_some_iff.mp hi).1
  constructor
  · intro h
    refine ⟨h.le (Nat.le_succ i), ?_⟩
    obtain ⟨ms, h1, h2, h3, h4⟩ := h
    rw [take_snoc hi] at h1
    obtain ⟨ms0, m, rfl, h5, rfl⟩ := map_snoc_inv h1
    have hl : ms0.length = i := by
      have := congrArg List.length h5
      rw [List.length_take, List.length_map] at this
      omega
    refine ⟨m, rfl, h2 m (by simp), fun h0 => h3 m ?_, fun k a hk ha => h4 k a m ?_ ?_⟩
    · rw [List.getElem?_append_right (by omega), hl, h0]; rfl
    · have h6 : (ds.take i)[k]? = some (.int a) := by rw [List.getElem?_take, if_pos (by omega)]; exact ha
      rw [h5, List.getElem?_map] at h6
      obtain ⟨a', ha', e⟩ := Option.map_eq_some_iff.mp h6
      cases e
      rw [List.getElem?_append_left (by omega)]
      exact ha'
    · rw [List.getElem?_append_right (by omega), hl, hk, Nat.sub_self]; rfl
  · rintro ⟨⟨ms, h1, h2, h3, h4⟩, m, rfl, k1, k2, k3⟩
    have hl : ms.length = i := by
      have := congrArg List.length h1
      rw [List.length_take, List.length_map] at this
      omega
    refine ⟨ms ++ [m], by rw [take_snoc hi, h1, List.map_append]; rfl, fun x hx => ?_, fun x hx => ?_, fun k a b ha hb => ?_⟩
    · rcases List.mem_append.mp hx with h | h
      · exact h2 x h
      · rw [List.mem_singleton] at h; rw [h]; exact k1
    · by_cases h0 : i = 0
      · rw [List.getElem?_append_right (by omega), hl, h0] at hx
        cases hx
        exact k2 h0
      · rw [List.getElem?_append_left (by omega)] at hx
        exact h3 x hx
    · have hk : k + 1 < (ms ++ [m]).length := (List.getElem?_eq_some_iff.mp hb).1
      rw [List.length_append, List.length_singleton] at hk
      rw [List.getElem?_append_left (by omega)] at ha
      by_cases e : k + 1 = i
      · rw [List.getElem?_append_right (by omega), hl, e, Nat.sub_self] at hb
        cases hb
        refine k3 k a e.symm ?_
        have h6 : (ds.take i)[k]? = some (.int a) := by rw [h1, List.getElem?_map, ha]; rfl
        rw [List.getElem?_take, if_pos (by omega)] at h6
        exact h6
      · rw [List.getElem?_append_left (by omega)] at hb
        exact h4 k a b ha hb
theorem OkTo.int (h : OkTo cs roots ds i) {k : Nat} (hk : k < i) (hd : ds[k]? = some d) : ∃ m, d = .int m ∧ m ∈ nums cs := by
  obtain ⟨ms, h1, h2, _, _⟩ := h
  have h6 : (ds.take i)[k]? = some d := by rw [List.getElem?_take, if_pos hk]; exact hd
  rw [h1, List.getElem?_map] at h6
  obtain ⟨m, hm, e⟩ := Option.map_eq_some_iff.mp h6
  exact ⟨m, e.symm, h2 m (List.mem_of_getElem? hm)⟩
end

/-! ### the program's judge of a way -/
def spIsWay : Sp := fun vs H Q _ => ∃ (ca ra : Addr) (cs : List (Int × List Int)) (roots : List Int) (v : V) (d : PyData) (n : Int), vs = [.ref ca, .ref ra, v, .int n] ∧ CellsAt H ca cs ∧ H ra = some (.lst (roots.map V.int)) ∧ Jq H v d ∧ Few 1000 d ∧
  ∀ (b : Bool) (H' : Hp), (b = true ↔ WayP cs roots d n) → Same H H' → Q (.bl b) H'
theorem pure_isway {K : PySem.W.Frag} {w : World} {m : Nat} : PureOk 4 spIsWay (t_is_way K w (spAlike (m + 1)) spNamedBy) 5 := by
  refine ⟨fun vs H Q E ⟨_, _, _, _, _, _, _, e, _⟩ => by rw [e]; rfl, ?_⟩
  rintro vs H Q E ⟨ca, ra, cs, roots, v, d, n, rfl, hC, era, hv, hF, q⟩
  show t_is_way K w _ _ _ [some (.ref ca), some (.ref ra), some v, some (.int n), none] H
  unfold t_is_way
  have no : ∀ {b : Bool} {H' : Hp}, b = false → ¬ WayP cs roots d n → Same H H' → Q (.bl b) H' := fun hb hn s => q _ _ (by rw [hb]; exact ⟨fun h => (by cases h), fun h => absurd h hn⟩) s
  walk_at "gg"
  refine g_isi hv.ty (kit_tuple hv) ?_
  walk_at "gg"
  cases ht : isTupD d with
  | false =>
    walk_at "gg"
    exact no rfl (fun ⟨ds, e, _⟩ => by rw [e] at ht; cases ht) (.refl _)
  | true =>
  cases hv with
  | non => cases ht
  | bl b => cases ht
  | int i => cases ht
  | str x => cases ht
  | lst e => cases ht
  | @tup a xs ds ea txs =>
  obtain ⟨hds, _⟩ := hF.out
  have hlen := txs.length
  walk_at "gg"
  rename_i p1 H1 n1 e1 s1
  refine g_eqT (s1 _ _ ea) e1 ?_
  walk_at "gg"
  rcases nil_snoc xs with rfl | ⟨xs0, xl, rfl⟩
  · walk_at "gg"
    have : ds = [] := List.eq_nil_of_length_eq_zero (by simpa using hlen.symm)
    exact no rfl (fun ⟨ds', e, h0, _⟩ => by cases e; exact h0 this) s1
  refine g_F (by simp) ?_
  walk_at "gg"
  refine g_ixT (.of (s1 _ _ ea)) (atI_last xs0 xl) ?_
  walk_at "gg"
  obtain ⟨dl, hdl, tl⟩ := txs.at (i := xs0.length) (v := xl) (by rw [List.getElem?_append_right (Nat.le_refl _), Nat.sub_self]; rfl)
  have hdl2 : ds.getLast? = some dl := by
    rw [List.getLast?_eq_getElem?, show ds.length - 1 = xs0.length from by rw [← hlen, List.length_append, List.length_singleton]; omega]
    exact hdl
  refine ⟨xl, .int n, dl, .int n, rfl, tl.mono (Same.tj s1), .int n, .int _ n, fun b1 H2 hb1 s2 => ?_⟩
  walk_at "gg"
  cases b1 with
  | false =>
    walk_at "gg"
    refine no rfl (fun ⟨ds', e, _, h1, _⟩ => ?_) (s1.trans s2)
    cases e
    rw [hdl2] at h1
    cases h1
    exact absurd (hb1.mpr rfl) (by decide)
  | true =>
  have hdn : dl = .int n := hb1.mp rfl
  subst hdn
  walk_at "gg"
  generalize hxs : xs0 ++ [xl] = xs at *
  have hlx : xs.length ≤ 1000 := by omega
  refine g_isrng (by omega) (by omega) ?_
  rw [Int.toNat_natCast]
  have s12 := s1.trans s2
  refine for_any xs.length (fun i σ H' => ∃ x4 : Option V, σ = [some (.ref ca), some (.ref ra), some (.ref a), some (.int n), x4] ∧ OkTo cs roots ds i ∧ Same H H') ⟨_, rfl, ⟨[], by simp, by simp, by simp, by simp⟩, s12⟩
    (fun i σ H' hi _ => hi) (fun σ H' _ => Nat.le_refl _) ?_ ?_
  · rintro i x σ H3 _ hi ⟨x4, rfl, hok, s3⟩ ⟨rfl, hx⟩
    have hxi : x = .int (i : Nat) := by rw [hx, Int.zero_add]
    subst hxi
    obtain ⟨d0, hd0, t0⟩ := txs.at (List.getElem?_eq_getElem hi)
    have hixg : ∀ {H' : Hp} {R : VK}, Same H H' → R xs[i] H' → rIxG K w (.ref a) (.int (i : Nat)) H' R := fun s r => g_ixT (.of (s _ _ ea)) (atI_nat (List.getElem?_eq_getElem hi)) r
    have t03 := t0.mono (Same.tj s3)
    have stop : (¬ ∃ m, d0 = .int m ∧ m ∈ nums cs ∧ (i = 0 → m ∈ roots) ∧ ∀ k a, i = k + 1 → ds[k]? = some (.int a) → m ∈ look cs a) → ∀ {b : Bool} {H' : Hp}, b = false → Same H H' → Q (.bl b) H' := fun hn b H' hb s =>
      no hb (fun ⟨ds', e, _, _, h⟩ => by cases e; exact hn ((OkTo.step hd0).mp (h.le (by omega))).2) s
    walk_at "gg"
    refine hixg s3 ?_
    walk_at "gg"
    refine g_isi t03.ty (kit_int t03) ?_
    have nwh : isWh d0 = false → ¬ ∃ m, d0 = .int m ∧ m ∈ nums cs ∧ (i = 0 → m ∈ roots) ∧ ∀ k a, i = k + 1 → ds[k]? = some (.int a) → m ∈ look cs a := fun hn ⟨m, e, _⟩ => by rw [e] at hn; cases hn
    have hwe := isWh_eq t03
    cases hI : isIntD d0 with
    | false =>
      rw [hI] at hwe
      walk_at "gg"
      exact stop (nwh hwe) rfl s3
    | true =>
    walk_at "gg"
    refine hixg s3 ?_
    walk_at "gg"
    refine g_isi t03.ty (kit_bool t03) ?_
    walk_at "gg"
    cases hB : isBoolD d0 with
    | true =>
      rw [hI, hB] at hwe
      walk_at "gg"
      exact stop (nwh hwe) rfl s3
    | false =>
    rw [hI, hB] at hwe
    obtain ⟨m, rfl⟩ := isWh_iff.mp hwe
    have exi : xs[i] = .int m := jq_int t03
    walk_at "gg"
    refine hixg s3 ?_
    rw [exi] at hixg ⊢
    walk_at "gg"
    refine g_notC (hC.same s3) ?_
    by_cases hm : m ∈ nums cs
    · rw [decide_eq_true hm]
      walk_at "gg"
      have go : ∀ {σ' : L2.St} {H' : Hp}, ((i = 0 → m ∈ roots) ∧ ∀ k a, i = k + 1 → ds[k]? = some (.int a) → m ∈ look cs a) → Same H H' → σ' = [some (.ref ca), some (.ref ra), some (.ref a), some (.int n), some (.int (i : Nat))] →
          ∃ x4 : Option V, σ' = [some (.ref ca), some (.ref ra), some (.ref a), some (.int n), x4] ∧ OkTo cs roots ds (i + 1) ∧ Same H H' := fun h s e =>
        ⟨_, e, (OkTo.step hd0).mpr ⟨hok, m, rfl, hm, h.1, h.2⟩, s⟩
      rcases Nat.eq_zero_or_pos i with h0 | h0
      · refine g_T (decide_eq_true (by omega)) ?_
        walk_at "gg"
        refine hixg s3 ?_
        walk_at "gg"
        refine g_notLI (s3 _ _ era) ?_
        by_cases hr : m ∈ roots
        · rw [decide_eq_true hr]
          walk_at "gg"
          refine g_F (decide_eq_false (by omega)) ?_
          walk_at "gg"
          exact go ⟨fun _ => hr, fun k a hk => by omega⟩ s3 rfl
        · rw [decide_eq_false hr]
          walk_at "gg"
          exact stop (fun ⟨m', e, _, h, _⟩ => by cases e; exact hr (h h0)) rfl s3
      · refine g_F (decide_eq_false (by omega)) ?_
        walk_at "gg"
        refine g_T (decide_eq_true (by omega)) ?_
        walk_at "gg"
        refine hixg s3 ?_
        walk_at "gg"
        have hi1 : i - 1 < xs.length := by omega
        obtain ⟨dp, hdp, tp⟩ := txs.at (List.getElem?_eq_getElem hi1)
        obtain ⟨mp, rfl, hmp⟩ := hok.int (k := i - 1) (by omega) hdp
        have exp : xs[i - 1] = .int mp := jq_int tp
        refine g_ixT (.of (s3 _ _ ea)) (v := .int mp) ?_ ?_
        · rw [show (((i : Nat) : Int) - 1) = ((i - 1 : Nat) : Int) from by omega, atI_nat (List.getElem?_eq_getElem hi1), exp]
        walk_at "gg"
        refine g_ixC (hC.same s3) hmp fun v hv hvl => ?_
        walk_at "gg"
        refine ⟨v, _, rfl, hv, hvl, fun p6 H6 n6 e6 s6 => ?_⟩
        refine g_notLI e6 ?_
        by_cases hr : m ∈ look cs mp
        · rw [decide_eq_true hr]
          walk_at "gg"
          exact go ⟨fun h => by omega, fun k a hk ha => by
            rw [show i - 1 = k from by omega, ha] at hdp
            cases hdp
            exact hr⟩ (s3.trans s6) rfl
        · rw [decide_eq_false hr]
          walk_at "gg"
          exact stop (fun ⟨m', e, _, _, h⟩ => by cases e; exact hr (h (i - 1) mp (by omega) hdp)) rfl (s3.trans s6)
    · rw [decide_eq_false hm]
      walk_at "gg"
      exact stop (fun ⟨m', e, h, _⟩ => by cases e; exact hm h) rfl s3
  · rintro σ H3 ⟨x4, rfl, hok, s3⟩
    walk_at "gg"
    exact q true H3 ⟨fun _ => ⟨ds, rfl, (by rintro rfl; cases hdl2), hdl2, (by rw [← hlen]; exact hok)⟩, fun _ => rfl⟩ s3

/-! ### the program's judge of what is kept, and of the whole -/
def spAreKept : Sp := fun vs H Q _ => ∃ (ca ra : Addr) (cs : List (Int × List Int)) (roots : List Int) (v : V) (d : PyData), vs = [.ref ca, .ref ra, v] ∧ CellsAt H ca cs ∧ H ra = some (.lst (roots.map V.int)) ∧ roots.length ≤ 100 ∧ Jq H v d ∧ Few 1000 d ∧
  ∀ (b : Bool) (H' : Hp), (b = true ↔ KeptP cs roots d) → Same H H' → Q (.bl b) H'
theorem kept_at {cs : List (Int × List Int)} {roots : List Int} {ds : List PyData} {i : Nat} {d : PyData} (h : KeptP cs roots (.tuple ds)) (hd : ds[i]? = some d) : ∃ m, d = .int m ∧ m ∈ nums cs ∧ ∀ k a, i = k + 1 → ds[k]? = some (.int a) → a < m := by
  obtain ⟨ns, e, h1, h2, _⟩ := h
  cases e
  rw [List.getElem?_map] at hd
  obtain ⟨m, hm, rfl⟩ := Option.map_eq_some_iff.mp hd
  refine ⟨m, rfl, h1 m (List.mem_of_getElem? hm), fun k a hk ha => ?_⟩
  rw [List.getElem?_map] at ha
  obtain ⟨a', ha', e⟩ := Option.map_eq_some_iff.mp ha
  cases e
  obtain ⟨l1, g1⟩ := List.getElem?_eq_some_iff.mp ha'
  obtain ⟨l2, g2⟩ := List.getElem?_eq_some_iff.mp hm
  have := List.pairwise_iff_getElem.mp h2 k i l1 l2 (by omega)
  rwa [g1, g2] at this
theorem pairwise_snoc {ms : List Int} {m : Int} (h : ms.Pairwise (· < ·)) (hl : ∀ k a, ms.length = k + 1 → ms[k]? = some a → a < m) : (ms ++ [m]).Pairwise (· < ·) := by
  refine List.pairwise_append.mpr ⟨h, List.pairwise_singleton _ _, fun x hx y hy => ?_⟩
  rw [List.mem_singleton] at hy
  subst hy
  obtain ⟨i, hi, rfl⟩ := List.getElem_of_mem hx
  have hz := hl (ms.length - 1) ms[ms.length - 1] (by omega) (List.getElem?_eq_getElem (by omega))
  by_cases e : i = ms.length - 1
  · subst e; exact hz
  · have := List.pairwise_iff_getElem.mp h i (ms.length - 1) hi (by omega) (by omega)
    omega
theorem pure_arekept {K : PySem.W.Frag} {w : World} : PureOk 3 spAreKept (t_are_kept K w spNamedBy) 7 := by
  refine ⟨fun vs H Q E ⟨_, _, _, _, _, _, e, _⟩ => by rw [e]; rfl, ?_⟩
  rintro vs H Q E ⟨ca, ra, cs, roots, v, d, rfl, hC, era, hrl, hv, hF, q⟩
  show t_are_kept K w _ _ [some (.ref ca), some (.ref ra), some v, none, none, none, none] H
  unfold t_are_kept
  have no : ∀ {b : Bool} {H' : Hp}, b = false → ¬ KeptP cs roots d → Same H H' → Q (.bl b) H' := fun hb hn s => q _ _ (by rw [hb]; exact ⟨fun h => (by cases h), fun h => absurd h hn⟩) s
  walk_at "gg"
  refine g_isi hv.ty (kit_tuple hv) ?_
  walk_at "gg"
  cases ht : isTupD d with
  | false =>
    walk_at "gg"
    exact no rfl (fun ⟨ns, e, _⟩ => by rw [e] at ht; cases ht) (.refl _)
  | true =>
  cases hv with
  | non => cases ht
  | bl b => cases ht
  | int i => cases ht
  | str x => cases ht
  | lst e => cases ht
  | @tup a xs ds ea txs =>
  obtain ⟨hds, _⟩ := hF.out
  have hlen := txs.length
  walk_at "gg"
  rename_i dd H1 n1 e1 s1
  have hdd : H dd = none := n1
  have hlx : xs.length ≤ 1000 := by omega
  refine g_isrng (by omega) (by omega) ?_
  rw [Int.toNat_natCast]
  refine for_any xs.length (fun i σ H' => ∃ (x4 : Option V) (ms : List Int) (kvs : List (Key × V)), σ = [some (.ref ca), some (.ref ra), some (.ref a), some (.ref dd), x4, none, none] ∧ ds.take i = ms.map PyData.int ∧ (∀ m ∈ ms, m ∈ nums cs) ∧ ms.Pairwise (· < ·) ∧ H' dd = some (.dK kvs) ∧ kvs.map (·.1) = ms.map Sum.inl ∧ Same H H')
    ⟨_, [], [], rfl, by simp, by simp, .nil, e1, rfl, s1⟩
    (fun i σ H' hi _ => hi) (fun σ H' _ => Nat.le_refl _) ?_ ?_
  · rintro i x σ _ H3 hi ⟨x4, ms, kvs, rfl, h1, h2, h3, ed, hk, s3⟩ ⟨rfl, hx⟩
    have hxi : x = .int (i : Nat) := by rw [hx, Int.zero_add]
    subst hxi
    obtain ⟨d0, hd0, t0⟩ := txs.at (List.getElem?_eq_getElem hi)
    have hixg : ∀ {H' : Hp} {R : VK}, Same H H' → R xs[i] H' → rIxG K w (.ref a) (.int (i : Nat)) H' R := fun s r => g_ixT (.of (s _ _ ea)) (atI_nat (List.getElem?_eq_getElem hi)) r
    have t03 := t0.mono (Same.tj s3)
    have stop : (¬ ∃ m, d0 = .int m ∧ m ∈ nums cs ∧ ∀ k a, i = k + 1 → ds[k]? = some (.int a) → a < m) → ∀ {b : Bool} {H' : Hp}, b = false → Same H H' → Q (.bl b) H' := fun hn b H' hb s =>
      no hb (fun h => hn (kept_at h hd0)) s
    have nwh : isWh d0 = false → ¬ ∃ m, d0 = .int m ∧ m ∈ nums cs ∧ ∀ k a, i = k + 1 → ds[k]? = some (.int a) → a < m := fun hn ⟨m, e, _⟩ => by rw [e] at hn; cases hn
    have hwe := isWh_eq t03
    have hml : ms.length = i := by
      have := congrArg List.length h1
      rw [List.length_take, List.length_map] at this
      omega
    walk_at "gg"
    refine hixg s3 ?_
    walk_at "gg"
    refine g_isi t03.ty (kit_int t03) ?_
    walk_at "gg"
    cases hI : isIntD d0 with
    | false =>
      rw [hI] at hwe
      walk_at "gg"
      exact stop (nwh hwe) rfl s3
    | true =>
    walk_at "gg"
    refine hixg s3 ?_
    walk_at "gg"
    refine g_isi t03.ty (kit_bool t03) ?_
    walk_at "gg"
    cases hB : isBoolD d0 with
    | true =>
      rw [hI, hB] at hwe
      walk_at "gg"
      exact stop (nwh hwe) rfl s3
    | false =>
    rw [hI, hB] at hwe
    obtain ⟨m, rfl⟩ := isWh_iff.mp hwe
    have exi : xs[i] = .int m := jq_int t03
    walk_at "gg"
    refine hixg s3 ?_
    rw [exi] at hixg ⊢
    walk_at "gg"
    refine g_notC (hC.same s3) ?_
    by_cases hm : m ∈ nums cs
    · rw [decide_eq_true hm]
      walk_at "gg"
      have put : (∀ k a, i = k + 1 → ds[k]? = some (.int a) → a < m) → ∀ {R : Hp → Prop}, (∀ (H4 : Hp) (ms : List Int) (kvs : List (Key × V)), ds.take (i + 1) = ms.map PyData.int → (∀ m ∈ ms, m ∈ nums cs) → ms.Pairwise (· < ·) → H4 dd = some (.dK kvs) → kvs.map (·.1) = ms.map Sum.inl → Same H H4 → R H4) →
          rIxG K w (.ref a) (.int (i : Nat)) H3 fun i1 H2 => rSetG (.ref dd) i1 (.bl true) H2 R := by
        intro hlt R hR
        have hpw := pairwise_snoc (m := m) h3 fun k a hk ha => hlt k a (by omega) (by
          have h6 : (ds.take i)[k]? = some (.int a) := by rw [h1, List.getElem?_map, ha]; rfl
          rw [List.getElem?_take, if_pos (by omega)] at h6
          exact h6)
        have hnm : m ∉ ms := fun h => by
          have := (List.pairwise_append.mp hpw).2.2 m h m (by simp)
          omega
        obtain ⟨k1, k2⟩ := keys_put (v := .bl true) hk hnm
        have hkl : kvs.length = ms.length := by
          have := congrArg List.length hk
          rwa [List.length_map, List.length_map] at this
        refine hixg s3 ?_
        refine g_setK ed (k := .inl m) rfl (by show _ < 16777216; omega) fun H4 e4 c4 => ?_
        rw [k1] at e4
        refine hR H4 (ms ++ [m]) _ (by rw [take_snoc hd0, h1, List.map_append]; rfl) (fun x hx => ?_) hpw e4 k2 (Same.chg s3 hdd c4)
        rcases List.mem_append.mp hx with z | z
        · exact h2 x z
        · rw [List.mem_singleton] at z; rw [z]; exact hm
      rcases Nat.eq_zero_or_pos i with h0 | h0
      · refine g_F (decide_eq_false (by omega)) ?_
        walk_at "gg"
        exact put (fun k a hk => by omega) fun H4 ms kvs a b c d e f => ⟨_, ms, kvs, rfl, a, b, c, d, e, f⟩
      · refine g_T (decide_eq_true (by omega)) ?_
        walk_at "gg"
        have hi1 : i - 1 < xs.length := by omega
        obtain ⟨dp, hdp, tp⟩ := txs.at (List.getElem?_eq_getElem hi1)
        obtain ⟨mp, rfl⟩ : ∃ mp, dp = .int mp := by
          have h6 : (ds.take i)[i - 1]? = some dp := by rw [List.getElem?_take, if_pos (by omega)]; exact hdp
          rw [h1, List.getElem?_map] at h6
          obtain ⟨mp, _, e⟩ := Option.map_eq_some_iff.mp h6
          exact ⟨mp, e.symm⟩
        have exp : xs[i - 1] = .int mp := jq_int tp
        refine g_ixT (.of (s3 _ _ ea)) (v := .int mp) ?_ ?_
        · rw [show (((i : Nat) : Int) - 1) = ((i - 1 : Nat) : Int) from by omega, atI_nat (List.getElem?_eq_getElem hi1), exp]
        walk_at "gg"
        refine hixg s3 ?_
        walk_at "gg"
        by_cases hlt : mp < m
        · refine g_F (decide_eq_false (by omega)) ?_
          walk_at "gg"
          refine put (fun k a hk ha => ?_) fun H4 ms kvs a b c d e f => ⟨_, ms, kvs, rfl, a, b, c, d, e, f⟩
          rw [show i - 1 = k from by omega, ha] at hdp
          cases hdp
          exact hlt
        · refine g_T (decide_eq_true (by omega)) ?_
          walk_at "gg"
          exact stop (fun ⟨m', e, _, h⟩ => by cases e; exact hlt (h (i - 1) mp (by omega) hdp)) rfl s3
    · rw [decide_eq_false hm]
      walk_at "gg"
      exact stop (fun ⟨m', e, h, _⟩ => by cases e; exact hm h) rfl s3
  · rintro σ H3 ⟨x4, ns, kvs, rfl, h1, h2, h3, ed, hk, s3⟩
    rw [show xs.length = ds.length from hlen, List.take_length] at h1
    subst h1
    have hxs := jqs_ints txs
    walk_at "gg"
    refine g_seqT ?_
    walk_at "gg"
    have stop : (¬ ((∀ n ∈ ns, ∀ m ∈ look cs n, m ∈ ns) ∧ ∀ r ∈ roots, r ∈ ns)) → ∀ {b : Bool} {H' : Hp}, b = false → Same H H' → Q (.bl b) H' := fun hn b H' hb s =>
      no hb (fun ⟨ns', e, _, _, h⟩ => by
        have := map_int_inj (PyData.tuple.inj e)
        subst this
        exact hn h) s
    refine for_T (xs := xs) (fun j σ H' => ∃ x5 x6 : Option V, σ = [some (.ref ca), some (.ref ra), some (.ref a), some (.ref dd), x4, x5, x6] ∧ Same H3 H' ∧ ∀ n ∈ ns.take j, ∀ m ∈ look cs n, m ∈ ns) (fun i σ H' ⟨_, _, _, s, _⟩ => s _ _ (s3 _ _ ea)) ⟨_, _, rfl, .refl _, by simp⟩ ?_ ?_
    · rintro j x σ H4 hj ⟨x5, x6, rfl, s4, hin⟩
      rw [hxs, List.getElem?_map] at hj
      obtain ⟨n, hn, rfl⟩ := Option.map_eq_some_iff.mp hj
      have hnn : n ∈ ns := List.mem_of_getElem? hn
      have s34 := s3.trans s4
      walk_at "gg"
      refine g_seqL ?_
      walk_at "gg"
      refine g_ixC (hC.same s34) (h2 n hnn) fun v hv hvl => ?_
      walk_at "gg"
      refine ⟨v, _, rfl, hv, hvl, fun p5 H5 n5 e5 s5 => ?_⟩
      walk_at "gg"
      refine lc_boolsL e5 (by rw [List.length_map]; omega) (fun k => ∀ m, (look cs n)[k]? = some m → m ∈ ns) ?_ ?_
      · intro k x H6 Nx hx s6 hN
        rw [List.getElem?_map] at hx
        obtain ⟨m, hm, rfl⟩ := Option.map_eq_some_iff.mp hx
        walk_at "gg"
        refine ⟨rfl, ?_⟩
        walk_at "gg"
        refine g_inDI (s6 _ _ (s5 _ _ (s4 _ _ ed))) ?_
        rw [keys_has hk]
        exact hN _ _ (by rw [decide_eq_true_eq]; exact ⟨fun h m' hm' => by rw [hm] at hm'; cases hm'; exact h, fun h => h m hm⟩) (.refl _)
      · intro D bs H6 nD eD hbl hbs s6
        walk_at "gg"
        refine ⟨D, bs, rfl, .of eD, ?_⟩
        walk_at "gg"
        have hb := all_bools hbl hbs
        rw [List.length_map] at hb
        have hiff : bs.all id = true ↔ ∀ m ∈ look cs n, m ∈ ns := hb.trans ⟨fun h m hm => by
          obtain ⟨k, hkl, rfl⟩ := List.getElem_of_mem hm
          exact h k hkl _ (List.getElem?_eq_getElem hkl), fun h k hkl m hm => h m (List.mem_of_getElem? hm)⟩
        cases hba : bs.all id with
        | false =>
          walk_at "gg"
          refine stop (fun ⟨h, _⟩ => ?_) rfl (s34.trans (s5.trans s6))
          rw [hiff.mpr (h n hnn)] at hba
          cases hba
        | true =>
          walk_at "gg"
          refine ⟨_, _, rfl, s4.trans (s5.trans s6), fun n' hn' m hm => ?_⟩
          rw [List.take_add_one, hn, List.mem_append] at hn'
          rcases hn' with z | z
          · exact hin n' z m hm
          · simp only [Option.toList_some, List.mem_singleton] at z
            subst z
            exact hiff.mp hba m hm
    · rintro σ H4 ⟨x5, x6, rfl, s4, hin⟩
      have hln : xs.length = ns.length := by rw [hxs, List.length_map]
      rw [hln, List.take_length] at hin
      have s34 := s3.trans s4
      walk_at "gg"
      refine g_seqL ?_
      walk_at "gg"
      refine lc_boolsL (s34 _ _ era) (by rw [List.length_map]; omega) (fun k => ∀ m, roots[k]? = some m → m ∈ ns) ?_ ?_
      · intro k x H6 Nx hx s6 hN
        rw [List.getElem?_map] at hx
        obtain ⟨m, hm, rfl⟩ := Option.map_eq_some_iff.mp hx
        walk_at "gg"
        refine ⟨rfl, ?_⟩
        walk_at "gg"
        refine g_inDI (s6 _ _ (s4 _ _ ed)) ?_
        rw [keys_has hk]
        exact hN _ _ (by rw [decide_eq_true_eq]; exact ⟨fun h m' hm' => by rw [hm] at hm'; cases hm'; exact h, fun h => h m hm⟩) (.refl _)
      · intro D bs H6 nD eD hbl hbs s6
        walk_at "gg"
        refine ⟨D, bs, rfl, .of eD, ?_⟩
        walk_at "gg"
        have hb := all_bools hbl hbs
        rw [List.length_map] at hb
        refine q _ _ (hb.trans ⟨fun h => ⟨ns, rfl, h2, h3, hin, fun m hm => ?_⟩, fun ⟨ns', e, _, _, _, h⟩ k hkl m hm => ?_⟩) (s34.trans s6)
        · obtain ⟨k, hkl, rfl⟩ := List.getElem_of_mem hm
          exact h k hkl _ (List.getElem?_eq_getElem hkl)
        · have := map_int_inj (PyData.tuple.inj e)
          subst this
          exact h m (List.mem_of_getElem? hm)

/-! ### the program's judge of the whole -/
theorem len_two {α : Type} : ∀ {l : List α}, l.length = 2 → ∃ a b, l = [a, b]
  | [a, b], _ => ⟨a, b, rfl⟩
  | [], h => by cases h
  | [_], h => by cases h
  | _ :: _ :: _ :: _, h => by simp at h
def spSweep : Sp := fun vs H Q _ => ∃ (ca ra : Addr) (cs : List (Int × List Int)) (roots : List Int) (v : V) (d : PyData), vs = [.ref ca, .ref ra, v] ∧ CellsAt H ca cs ∧ H ra = some (.lst (roots.map V.int)) ∧ roots.length ≤ 100 ∧ Jq H v d ∧ Few 1000 d ∧
  ∀ (b : Bool) (H' : Hp), (b = true ↔ SweepP cs roots d) → Same H H' → Q (.bl b) H'
theorem SweepP.kept {cs : List (Int × List Int)} {roots : List Int} {k w : PyData} (h : SweepP cs roots (.tuple [k, w])) : KeptP cs roots k := by
  obtain ⟨k', ns, ws, e, _, h, _⟩ := h
  cases e
  exact h
theorem KeptP.tup {cs : List (Int × List Int)} {roots : List Int} {k : PyData} (h : KeptP cs roots k) : ∃ ns : List Int, k = .tuple (ns.map PyData.int) := by
  obtain ⟨ns, e, _⟩ := h
  exact ⟨ns, e⟩
theorem pure_sweep {K : PySem.W.Frag} {w : World} : PureOk 3 spSweep (t_lets_sweep K w spAreKept spIsWay) 5 := by
  refine ⟨fun vs H Q E ⟨_, _, _, _, _, _, e, _⟩ => by rw [e]; rfl, ?_⟩
  rintro vs H Q E ⟨ca, ra, cs, roots, v, d, rfl, hC, era, hrl, hv, hF, q⟩
  show t_lets_sweep K w _ _ _ [some (.ref ca), some (.ref ra), some v, none, none] H
  unfold t_lets_sweep
  have no : ∀ {b : Bool} {H' : Hp}, b = false → ¬ SweepP cs roots d → Same H H' → Q (.bl b) H' := fun hb hn s => q _ _ (by rw [hb]; exact ⟨fun h => (by cases h), fun h => absurd h hn⟩) s
  walk_at "gg"
  refine g_isi hv.ty (kit_tuple hv) ?_
  walk_at "gg"
  cases ht : isTupD d with
  | false =>
    walk_at "gg"
    exact no rfl (fun ⟨k, ns, ws, e, _⟩ => by rw [e] at ht; cases ht) (.refl _)
  | true =>
  cases hv with
  | non => cases ht
  | bl b => cases ht
  | int i => cases ht
  | str x => cases ht
  | lst e => cases ht
  | @tup a xs ds ea txs =>
  obtain ⟨hds, hFs⟩ := hF.out
  have hlen := txs.length
  walk_at "gg"
  by_cases h2 : xs.length = 2
  · rw [show (!decide ((xs.length : Int) = 2)) = false from by simp [h2]]
    obtain ⟨vk, vw, rfl⟩ := len_two h2
    cases txs with
    | @cons _ _ k _ tk txs =>
    cases txs with
    | @cons _ _ wd _ tw txs =>
    cases txs
    walk_at "gg"
    refine ⟨ca, ra, cs, roots, vk, k, rfl, hC, era, hrl, tk, hFs k (by simp), fun b1 H1 hb1 s1 => ?_⟩
    walk_at "gg"
    cases b1 with
    | false =>
      walk_at "gg"
      refine no rfl (fun h => ?_) s1
      exact absurd (hb1.mpr h.kept) (by decide)
    | true =>
    have hk := hb1.mp rfl
    obtain ⟨ns, rfl⟩ := hk.tup
    walk_at "gg"
    have tw1 := tw.mono (Same.tj s1)
    refine g_isi tw1.ty (kit_tuple tw1) ?_
    walk_at "gg"
    cases hw : isTupD wd with
    | false =>
      walk_at "gg"
      refine no rfl (fun ⟨k', ns', ws, e, _⟩ => ?_) s1
      cases e
      cases hw
    | true =>
    cases tw with
    | non => cases hw
    | bl b => cases hw
    | int i => cases hw
    | str x => cases hw
    | lst e => cases hw
    | @tup wa ws wds ew tws =>
    obtain ⟨hwl, hFw⟩ := (hFs (.tuple wds) (by simp)).out
    have hlw := tws.length
    cases tk with
    | @tup ka ks _ ek tks =>
    have hks := jqs_ints tks
    walk_at "gg"
    rw [show ks.length = ns.length from by rw [hks, List.length_map]]
    by_cases hl : ws.length = ns.length
    · rw [show (!decide ((ws.length : Int) = ns.length)) = false from by simp [hl]]
      walk_at "gg"
      refine ⟨.tup, .tup, _, _, _, _, rfl, .of (s1 _ _ ew), .of (s1 _ _ ek), ?_⟩
      have hln : ks.length = ns.length := by rw [hks, List.length_map]
      refine lc_bools ns.length (by omega) (fun i => ∀ wd n, wds[i]? = some wd → ns[i]? = some n → WayP cs roots wd n)
        (fun i H' hi s => ⟨ws, ks, _, _, .of (s _ _ (s1 _ _ ew)), .of (s _ _ (s1 _ _ ek)), List.getElem?_eq_getElem (by omega), List.getElem?_eq_getElem (by omega)⟩)
        (fun H' s => ⟨ws, ks, .of (s _ _ (s1 _ _ ew)), .of (s _ _ (s1 _ _ ek)), .inl (by omega)⟩) ?_ ?_
      · rintro i x H2 _ Nx hi s2 ⟨T, x1, y1, rfl, nT, rfl, hx, hy⟩ hN
        have hx1 := hx _ (.of (s2 _ _ (s1 _ _ ew)))
        have hy1 := hy _ (.of (s2 _ _ (s1 _ _ ek)))
        obtain ⟨d1, hd1, t1⟩ := tws.at hx1
        rw [hks, List.getElem?_map] at hy1
        obtain ⟨n, hn, rfl⟩ := Option.map_eq_some_iff.mp hy1
        have s3 : Same H2 (upd H2 T (.tup [x1, .int n])) := same_upd nT
        have eT : (upd H2 T (.tup [x1, .int n])) T = some (.tup [x1, .int n]) := upd_same
        generalize (upd H2 T (.tup [x1, .int n])) = H3 at s3 eT
        have s13 := s1.trans (s2.trans s3)
        refine g_un2 eT ?_
        refine ⟨rfl, ?_⟩
        walk_at "gg"
        refine ⟨ca, ra, cs, roots, x1, d1, n, rfl, hC.same s13, s13 _ _ era, t1.mono (Same.tj s13), hFw d1 (List.mem_of_getElem? hd1), fun c H4 hc s4 => ?_⟩
        exact hN c H4 (hc.trans ⟨fun h wd' n' e1 e2 => by rw [hd1] at e1; rw [hn] at e2; cases e1; cases e2; exact h, fun h => h d1 n hd1 hn⟩) (s3.trans s4)
      · intro D bs H2 nD eD hbl hbs s2
        walk_at "gg"
        refine ⟨D, bs, rfl, .of eD, ?_⟩
        walk_at "gg"
        refine q _ _ ((all_bools hbl hbs).trans ⟨fun h => ⟨_, ns, wds, rfl, rfl, hk, by omega, fun i wd n e1 e2 => ?_⟩, fun ⟨k', ns', ws', e, e2, _, _, h⟩ i hi wd n e3 e4 => ?_⟩) (s1.trans s2)
        · exact h i (List.getElem?_eq_some_iff.mp e2).1 wd n e1 e2
        · cases e
          have := map_int_inj (PyData.tuple.inj e2)
          subst this
          exact h i wd n e3 e4
    · rw [show (!decide ((ws.length : Int) = ns.length)) = true from by simp; omega]
      walk_at "gg"
      refine no rfl (fun ⟨k', ns', ws', e, e2, _, h, _⟩ => ?_) s1
      cases e
      have := map_int_inj (PyData.tuple.inj e2)
      subst this
      omega
  · rw [show (!decide ((xs.length : Int) = 2)) = true from by simp; omega]
    walk_at "gg"
    refine no rfl (fun ⟨k, ns, ws, e, _⟩ => ?_) (.refl _)
    cases e
    exact h2 hlen

/-! ### the law's own judge -/
theorem eqv_ints : ∀ a b : List Int, PyData.eqvAll (a.map PyData.int) (b.map PyData.int) = decide (a = b)
  | [], [] => rfl
  | [], _ :: _ => rfl
  | _ :: _, [] => rfl
  | x :: a, y :: b => by
    rw [List.map_cons, List.map_cons, PyData.eqvAll, eqv_ints a b, PyData.eqv]
    by_cases e : x = y
    · subst e; simp
    · simp [e]
theorem sorted_ext : ∀ {a b : List Int}, a.Pairwise (· < ·) → b.Pairwise (· < ·) → (∀ k, k ∈ a ↔ k ∈ b) → a = b
  | [], [], _, _, _ => rfl
  | [], y :: b, _, _, h => absurd ((h y).mpr List.mem_cons_self) (by simp)
  | x :: a, [], _, _, h => absurd ((h x).mp List.mem_cons_self) (by simp)
  | x :: a, y :: b, ha, hb, h => by
    rw [List.pairwise_cons] at ha hb
    have e : x = y := by
      rcases List.mem_cons.mp ((h x).mp List.mem_cons_self) with e | h1
      · exact e
      · rcases List.mem_cons.mp ((h y).mpr List.mem_cons_self) with e | h2
        · exact e.symm
        · have := hb.1 x h1
          have := ha.1 y h2
          omega
    subst e
    rw [sorted_ext ha.2 hb.2 fun k => by
      constructor
      · intro hk
        rcases List.mem_cons.mp ((h k).mp (List.mem_cons_of_mem _ hk)) with e | h1
        · subst e; have := ha.1 _ hk; omega
        · exact h1
      · intro hk
        rcases List.mem_cons.mp ((h k).mpr (List.mem_cons_of_mem _ hk)) with e | h1
        · subst e; have := hb.1 _ hk; omega
        · exact h1]
theorem wayP_ints {cs : List (Int × List Int)} {roots ms : List Int} {n : Int} : WayP cs roots (.tuple (ms.map PyData.int)) n ↔ ms ≠ [] ∧ ms.getLast? = some n ∧ (∀ m ∈ ms, m ∈ nums cs) ∧ (∀ m, ms[0]? = some m → m ∈ roots) ∧ ∀ (j : Nat) a b, ms[j]? = some a → ms[j + 1]? = some b → b ∈ look cs a := by
  constructor
  · rintro ⟨ds, e, h1, h2, ms', h3, h4, h5, h6⟩
    cases e
    rw [List.take_length] at h3
    have := map_int_inj h3
    subst this
    refine ⟨fun z => h1 (by rw [z]; rfl), ?_, h4, h5, h6⟩
    rw [List.getLast?_map] at h2
    obtain ⟨m, hm, e⟩ := Option.map_eq_some_iff.mp h2
    cases e
    exact hm
  · rintro ⟨h1, h2, h4, h5, h6⟩
    refine ⟨_, rfl, fun z => h1 (List.map_eq_nil_iff.mp z), ?_, ms, by rw [List.take_length], h4, h5, h6⟩
    rw [List.getLast?_map, h2]
    rfl
theorem WayP.ints {cs : List (Int × List Int)} {roots : List Int} {d : PyData} {n : Int} (h : WayP cs roots d n) : ∃ ms : List Int, d = .tuple (ms.map PyData.int) := by
  obtain ⟨ds, rfl, _, _, ms, h3, _⟩ := h
  rw [List.take_length] at h3
  exact ⟨ms, by rw [h3]⟩
section
variable {K : PySem.W.Frag} {w : World} {H : Hp} {Q : VK} {a b : Addr}
theorem g_neLI {ns ms : List Int} (ha : H a = some (.lst (ns.map V.int))) (hb : H b = some (.lst (ms.map V.int))) (q : Q (.bl (!decide (ns = ms))) H) : rNeG K (.ref a) (.ref b) H Q :=
  g_neD (.lst (.of ha) (dp_ints ns)) (.lst (.of hb) (dp_ints ms)) (shaped_ints ns) (shaped_ints ms) (by rw [PyData.eqv, eqv_ints]; exact q)
theorem inV_false : ∀ bs : List Bool, inV (.bl false) (bs.map V.bl) = !(bs.all id)
  | [] => rfl
  | c :: bs => by
    have ih := inV_false bs
    unfold inV at ih ⊢
    rw [List.map_cons, List.any_cons, ih, List.all_cons]
    cases c <;> rfl
theorem flat_bools : ∀ bs : List Bool, (bs.map V.bl).all flatV = true
  | [] => rfl
  | c :: bs => by rw [List.map_cons, List.all_cons, flat_bools bs]; rfl
theorem g_inFalse {bs : List Bool} (h : H a = some (.lst (bs.map V.bl))) (q : Q (.bl (!(bs.all id))) H) : rInG K w false (.bl false) (.ref a) H Q := .inl ⟨a, bs.map V.bl, rfl, .inl (.of h), rfl, flat_bools bs, by rw [inV_false]; exact q⟩
end
/-- those of a tuple's things that are no whole numbers -/
theorem lc_odd {K : PySem.W.Frag} {H1 : Hp} {σ : L2.St} {a : Addr} {xs : List V} {ds : List PyData} {Qd : Addr → Hp → Prop} {k : Nat} (ea : H1 a = some (.tup xs)) (txs : Jqs H1 xs ds) (hl : xs.length ≤ 1000) (hk : ∀ v, ((wipe σ [k]).set k (some v))[k]? = some (some v)) (hw : ∀ v, wipe ((wipe σ [k]).set k (some v)) [k] = wipe σ [k])
    (hd : ∀ D (ys : List V) H', Fr H1 D → H' D = some (.lst ys) → (ys.isEmpty = true ↔ ∃ ms : List Int, ds = ms.map PyData.int) → Same H1 H' → Qd D H') :
    LcR (Itt K a) (gName k) (tOr (tNot (tTru K (tCB (rIsiG K) (tCons (tVar k) (tCons (tC (.ty "int")) tNil))))) (tTru K (tCB (rIsiG K) (tCons (tVar k) (tCons (tC (.ty "bool")) tNil))))) (tVar k) [k] σ H1 Qd := by
  have hlen := txs.length
  refine lc_filtT ea (by omega) (fun i => ∃ d, ds[i]? = some d ∧ isWh d = false) ?_ ?_
  · intro i x H' Na Nb hx s h1 h2
    obtain ⟨d0, hd0, t0⟩ := txs.at hx
    have t1 := t0.mono (Same.tj s)
    have hwe := isWh_eq t1
    refine g_name rfl ⟨hw x, ?_⟩
    refine g_or (g_not (g_tru (g_cb (g_cons (g_var (hk x) ?_)))))
    refine g_cons (g_c (g_nil ?_))
    refine g_isi t1.ty (kit_int t1) (g_trubl ?_)
    cases hI : isIntD d0 with
    | false =>
      rw [hI] at hwe
      refine g_T rfl (g_T rfl (g_var (hk x) ?_))
      exact h1 x H' ⟨d0, hd0, hwe⟩ (.refl _)
    | true =>
      refine g_F rfl (g_tru (g_cb (g_cons (g_var (hk x) (g_cons (g_c (g_nil ?_)))))))
      refine g_isi t1.ty (kit_bool t1) (g_trubl ?_)
      cases hB : isBoolD d0 with
      | true =>
        rw [hI, hB] at hwe
        refine g_T rfl (g_var (hk x) ?_)
        exact h1 x H' ⟨d0, hd0, hwe⟩ (.refl _)
      | false =>
        rw [hI, hB] at hwe
        refine g_F rfl ?_
        exact h2 H' (fun ⟨d1, e, z⟩ => by rw [hd0] at e; cases e; rw [hwe] at z; cases z) (.refl _)
  · intro D ys H' nD eD hy s
    refine hd D ys H' nD eD (hy.trans ⟨fun h => all_int fun i d hi => ?_, ?_⟩) s
    · have := h i (by have := (List.getElem?_eq_some_iff.mp hi).1; omega)
      refine isWh_iff.mp ?_
      cases hc : isWh d with
      | true => rfl
      | false => exact absurd ⟨d, hi, hc⟩ this
    · rintro ⟨ms, rfl⟩ i hi ⟨d, e, z⟩
      rw [List.getElem?_map] at e
      obtain ⟨m, _, rfl⟩ := Option.map_eq_some_iff.mp e
      cases z
theorem pure_lright {K : PySem.W.Frag} {w : World} : PureOk 3 spSweep (t_law_paper_right K w spNamedBy) 9 := by
  refine ⟨fun vs H Q E ⟨_, _, _, _, _, _, e, _⟩ => by rw [e]; rfl, ?_⟩
  rintro vs H Q E ⟨ca, ra, cs, roots, v, d, rfl, hC, era, hrl, hv, hF, q⟩
  show t_law_paper_right K w _ _ [some (.ref ca), some (.ref ra), some v, none, none, none, none, none, none] H
  unfold t_law_paper_right
  have no : ∀ {b : Bool} {H' : Hp}, b = false → ¬ SweepP cs roots d → Same H H' → Q (.bl b) H' := fun hb hn s => q _ _ (by rw [hb]; exact ⟨fun h => (by cases h), fun h => absurd h hn⟩) s
  walk_at "gg"
  refine g_isi hv.ty (kit_tuple hv) ?_
  walk_at "gg"
  cases ht : isTupD d with
  | false =>
    walk_at "gg"
    exact no rfl (fun ⟨k, ns, ws, e, _⟩ => by rw [e] at ht; cases ht) (.refl _)
  | true =>
  cases hv with
  | non => cases ht
  | bl b => cases ht
  | int i => cases ht
  | str x => cases ht
  | lst e => cases ht
  | @tup a xs ds ea txs =>
  obtain ⟨hds, hFs⟩ := hF.out
  have hlen := txs.length
  walk_at "gg"
  by_cases h2 : xs.length = 2
  rotate_left
  · rw [show (!decide ((xs.length : Int) = 2)) = true from by simp; omega]
    walk_at "gg"
    refine no rfl (fun ⟨k, ns, ws, e, _⟩ => ?_) (.refl _)
    cases e
    exact h2 hlen
  rw [show (!decide ((xs.length : Int) = 2)) = false from by simp [h2]]
  obtain ⟨vk, vw, rfl⟩ := len_two h2
  cases txs with
  | @cons _ _ kd _ tk txs =>
  cases txs with
  | @cons _ _ wd _ tw txs =>
  cases txs
  walk_at "gg"
  refine g_isi tk.ty (kit_tuple tk) ?_
  walk_at "gg"
  cases hkt : isTupD kd with
  | false =>
    walk_at "gg"
    refine no rfl (fun h => ?_) (.refl _)
    obtain ⟨ns, e⟩ := h.kept.tup
    rw [e] at hkt
    cases hkt
  | true =>
  walk_at "gg"
  refine g_isi tw.ty (kit_tuple tw) ?_
  walk_at "gg"
  cases hwt : isTupD wd with
  | false =>
    walk_at "gg"
    refine no rfl (fun ⟨k', ns', ws, e, _⟩ => ?_) (.refl _)
    cases e
    cases hwt
  | true =>
  cases tk with
  | non => cases hkt
  | bl b => cases hkt
  | int i => cases hkt
  | str x => cases hkt
  | lst e => cases hkt
  | @tup ka ks kds ek tks =>
  cases tw with
  | non => cases hwt
  | bl b => cases hwt
  | int i => cases hwt
  | str x => cases hwt
  | lst e => cases hwt
  | @tup wa ws wds ew tws =>
  obtain ⟨hkl, _⟩ := (hFs (.tuple kds) (by simp)).out
  obtain ⟨hwl, hFw⟩ := (hFs (.tuple wds) (by simp)).out
  have hlk := tks.length
  have hlw := tws.length
  walk_at "gg"
  by_cases hl : ws.length = ks.length
  rotate_left
  · rw [show (!decide ((ws.length : Int) = ks.length)) = true from by simp; omega]
    walk_at "gg"
    refine no rfl (fun ⟨k', ns', ws', e, e2, _, h, _⟩ => ?_) (.refl _)
    cases e
    cases e2
    rw [List.length_map] at hlk
    omega
  rw [show (!decide ((ws.length : Int) = ks.length)) = false from by simp [hl]]
  walk_at "gg"
  refine g_seqT ?_
  walk_at "gg"
  refine lc_odd ek tks (by omega) (fun _ => rfl) (fun _ => rfl) fun D1 y1 H1 n1 e1 hy1 s1 => ?_
  walk_at "gg"
  rename_i p2 H2 n2 e2 s2
  cases hye : y1.isEmpty with
  | false =>
    walk_at "gg"
    refine no rfl (fun h => ?_) (s1.trans s2)
    obtain ⟨ns, e⟩ := h.kept.tup
    cases e
    rw [hy1.mpr ⟨ns, rfl⟩] at hye
    cases hye
  | true =>
  obtain ⟨ns, rfl⟩ := hy1.mp hye
  have hks := jqs_ints tks
  subst hks
  rw [List.length_map] at hl
  have stop : ¬ KeptP cs roots (.tuple (ns.map PyData.int)) → ∀ {b : Bool} {H' : Hp}, b = false → Same H H' → Q (.bl b) H' := fun hn b H' hb s => no hb (fun h => hn h.kept) s
  have kp : KeptP cs roots (.tuple (ns.map PyData.int)) → (∀ n ∈ ns, n ∈ nums cs) ∧ ns.Pairwise (· < ·) ∧ (∀ n ∈ ns, ∀ m ∈ look cs n, m ∈ ns) ∧ ∀ r ∈ roots, r ∈ ns := fun ⟨ns', e, h⟩ => by
    have := map_int_inj (PyData.tuple.inj e)
    subst this
    exact h
  walk_at "gg"
  refine g_seqT ?_
  walk_at "gg"
  have s02 := s1.trans s2
  have hnl : ns.length ≤ 1000 := by rw [List.length_map] at hkl; exact hkl
  refine lc_filtT (s02 _ _ ek) (by rw [List.length_map]; omega) (fun i => ∃ n, ns[i]? = some n ∧ n ∉ nums cs) ?_ fun D3 y3 H3 n3 e3 hy3 s3 => ?_
  · intro i x H' Na Nb hx s h1 h2
    rw [List.getElem?_map] at hx
    obtain ⟨n, hn, rfl⟩ := Option.map_eq_some_iff.mp hx
    walk_at "gg"
    refine ⟨rfl, ?_⟩
    walk_at "gg"
    refine g_notC (hC.same (s02.trans s)) ?_
    by_cases hc : n ∈ nums cs
    · rw [decide_eq_true hc]
      walk_at "gg"
      exact h2 _ (fun ⟨n', e, z⟩ => by rw [hn] at e; cases e; exact z hc) (.refl _)
    · rw [decide_eq_false hc]
      walk_at "gg"
      exact h1 _ _ ⟨n, hn, hc⟩ (.refl _)
  walk_at "gg"
  rename_i p4 H4 n4 e4 s4
  have s04 := s02.trans (s3.trans s4)
  cases hye3 : y3.isEmpty with
  | false =>
    walk_at "gg"
    refine stop (fun h => ?_) rfl s04
    rw [hy3.mpr (fun i hi ⟨n, e, z⟩ => z ((kp h).1 n (List.mem_of_getElem? e)))] at hye3
    cases hye3
  | true =>
  have hA : ∀ n ∈ ns, n ∈ nums cs := fun n hn => by
    obtain ⟨i, hi, rfl⟩ := List.getElem_of_mem hn
    by_cases hc : ns[i] ∈ nums cs
    · exact hc
    · exact absurd ⟨_, List.getElem?_eq_getElem hi, hc⟩ (hy3.mp hye3 i (by rw [List.length_map]; exact hi))
  walk_at "gg"
  refine g_seqL ?_
  walk_at "gg"
  refine lc_filtL (s04 _ _ era) (by rw [List.length_map]; omega) (fun i => ∃ n, roots[i]? = some n ∧ n ∉ ns) ?_ fun D5 y5 H5 n5 e5 hy5 s5 => ?_
  · intro i x H' Na Nb hx s h1 h2
    rw [List.getElem?_map] at hx
    obtain ⟨n, hn, rfl⟩ := Option.map_eq_some_iff.mp hx
    walk_at "gg"
    refine ⟨rfl, ?_⟩
    walk_at "gg"
    refine g_notTI (s _ _ (s04 _ _ ek)) ?_
    by_cases hc : n ∈ ns
    · rw [decide_eq_true hc]
      walk_at "gg"
      exact h2 _ (fun ⟨n', e, z⟩ => by rw [hn] at e; cases e; exact z hc) (.refl _)
    · rw [decide_eq_false hc]
      walk_at "gg"
      exact h1 _ _ ⟨n, hn, hc⟩ (.refl _)
  walk_at "gg"
  rename_i p6 H6 n6 e6 s6
  have s06 := s04.trans (s5.trans s6)
  cases hye5 : y5.isEmpty with
  | false =>
    walk_at "gg"
    refine stop (fun h => ?_) rfl s06
    rw [hy5.mpr (fun i hi ⟨n, e, z⟩ => z ((kp h).2.2.2 n (List.mem_of_getElem? e)))] at hye5
    cases hye5
  | true =>
  have hB : ∀ n ∈ roots, n ∈ ns := fun n hn => by
    obtain ⟨i, hi, rfl⟩ := List.getElem_of_mem hn
    by_cases hc : roots[i] ∈ ns
    · exact hc
    · exact absurd ⟨_, List.getElem?_eq_getElem hi, hc⟩ (hy5.mp hye5 i (by rw [List.length_map]; exact hi))
  walk_at "gg"
  rename_i p7 H7 n7 e7 s7
  have s07 := s06.trans s7
  refine g_sortsetT (s07 _ _ ek) (by omega) fun ms p8 H8 hms hmm n8 e8 s8 => ?_
  have s08 := s07.trans s8
  refine g_neLI (s8 _ _ e7) e8 ?_
  walk_at "gg"
  by_cases hpw : ns.Pairwise (· < ·)
  rotate_left
  · rw [decide_eq_false (fun e : ns = ms => hpw (by rw [e]; exact hms))]
    walk_at "gg"
    exact stop (fun h => hpw (kp h).2.1) rfl s08
  rw [decide_eq_true (sorted_ext hpw hms fun k => (hmm k).symm)]
  walk_at "gg"
  refine ⟨.tup, .tup, _, _, _, _, rfl, .of (s08 _ _ ek), .of (s08 _ _ ew), ?_⟩
  have hSw : (∀ (i : Nat) n wd, ns[i]? = some n → wds[i]? = some wd → (∀ m ∈ look cs n, m ∈ ns) ∧ WayP cs roots wd n) ↔ SweepP cs roots (.tuple [.tuple (ns.map PyData.int), .tuple wds]) := by
    constructor
    · intro h
      refine ⟨_, ns, wds, rfl, rfl, ⟨ns, rfl, hA, hpw, fun n hn m hm => ?_, hB⟩, by omega, fun i wd n e1 e2 => (h i n wd e2 e1).2⟩
      obtain ⟨i, hi, rfl⟩ := List.getElem_of_mem hn
      have hi2 : i < wds.length := by omega
      exact (h i _ wds[i] (List.getElem?_eq_getElem hi) (List.getElem?_eq_getElem hi2)).1 m hm
    · rintro ⟨k', ns', ws', e, e2, hk, _, h⟩ i n wd e3 e4
      cases e
      have := map_int_inj (PyData.tuple.inj e2)
      subst this
      exact ⟨(kp hk).2.2.1 n (List.mem_of_getElem? e3), h i wd n e4 e3⟩
  refine for_any ns.length (fun j σ H' => ∃ x5 x6 x7 x8 : Option V, σ = [some (.ref ca), some (.ref ra), some (.ref a), some (.ref ka), some (.ref wa), x5, x6, x7, x8] ∧ Same H8 H' ∧ ∀ (i : Nat) n wd, i < j → ns[i]? = some n → wds[i]? = some wd → (∀ m ∈ look cs n, m ∈ ns) ∧ WayP cs roots wd n)
    ⟨_, _, _, _, rfl, .refl _, fun i n wd h => absurd h (by omega)⟩
    (fun i σ H' hi ⟨_, _, _, _, _, s, _⟩ => ⟨_, _, _, _, .of (s _ _ (s08 _ _ ek)), .of (s _ _ (s08 _ _ ew)), List.getElem?_eq_getElem (by rw [List.length_map]; omega), List.getElem?_eq_getElem (by omega)⟩)
    (fun σ H' ⟨_, _, _, _, _, s, _⟩ => ⟨_, _, .of (s _ _ (s08 _ _ ek)), .of (s _ _ (s08 _ _ ew)), .inl (by rw [List.length_map]; omega)⟩) ?_ ?_
  rotate_left
  · rintro σ H9 ⟨x5, x6, x7, x8, rfl, s9, hin⟩
    walk_at "gg"
    exact q true H9 ⟨fun _ => hSw.mp fun i n wd e1 e2 => hin i n wd (List.getElem?_eq_some_iff.mp e1).1 e1 e2, fun _ => rfl⟩ (s08.trans s9)
  rintro j x σ H9 _ hj ⟨x5, x6, x7, x8, rfl, s9, hin⟩ ⟨T, x1, y1, rfl, nT, rfl, hx, hy⟩
  have hx1 := hx _ (.of (s9 _ _ (s08 _ _ ek)))
  have hy1 := hy _ (.of (s9 _ _ (s08 _ _ ew)))
  rw [List.getElem?_map] at hx1
  obtain ⟨n, hn, rfl⟩ := Option.map_eq_some_iff.mp hx1
  obtain ⟨d1, hd1, t1⟩ := tws.at hy1
  have s10 : Same H9 (upd H9 T (.tup [.int n, y1])) := same_upd nT
  have eT : (upd H9 T (.tup [.int n, y1])) T = some (.tup [.int n, y1]) := upd_same
  generalize (upd H9 T (.tup [.int n, y1])) = H10 at s10 eT
  have s010 := (s08.trans s9).trans s10
  have bad : ¬ ((∀ m ∈ look cs n, m ∈ ns) ∧ WayP cs roots d1 n) → ∀ {b : Bool} {H' : Hp}, b = false → Same H H' → Q (.bl b) H' := fun hn' b H' hb s => no hb (fun h => hn' (hSw.mpr h j n d1 hn hd1)) s
  have hnn : n ∈ ns := List.mem_of_getElem? hn
  refine g_un2 eT ?_
  walk_at "gg"
  refine g_seqL ?_
  walk_at "gg"
  refine g_ixC (hC.same s010) (hA n hnn) fun v hv hvl => ?_
  walk_at "gg"
  refine ⟨v, _, rfl, hv, hvl, fun p11 H11 n11 e11 s11 => ?_⟩
  walk_at "gg"
  refine lc_filtL e11 (by rw [List.length_map]; omega) (fun i => ∃ m, (look cs n)[i]? = some m ∧ m ∉ ns) ?_ fun D12 y12 H12 n12 e12 hy12 s12 => ?_
  · intro i x H' Na Nb hx s h1 h2
    rw [List.getElem?_map] at hx
    obtain ⟨m, hm, rfl⟩ := Option.map_eq_some_iff.mp hx
    walk_at "gg"
    refine ⟨rfl, ?_⟩
    walk_at "gg"
    refine g_notTI (s _ _ (s11 _ _ (s010 _ _ ek))) ?_
    by_cases hc : m ∈ ns
    · rw [decide_eq_true hc]
      walk_at "gg"
      exact h2 _ (fun ⟨n', e, z⟩ => by rw [hm] at e; cases e; exact z hc) (.refl _)
    · rw [decide_eq_false hc]
      walk_at "gg"
      exact h1 _ _ ⟨m, hm, hc⟩ (.refl _)
  walk_at "gg"
  rename_i p13 H13 n13 e13 s13
  have s013 := s010.trans (s11.trans (s12.trans s13))
  cases hye12 : y12.isEmpty with
  | false =>
    walk_at "gg"
    refine bad (fun h => ?_) rfl s013
    rw [hy12.mpr (fun i hi ⟨m, e, z⟩ => z (h.1 m (List.mem_of_getElem? e)))] at hye12
    cases hye12
  | true =>
  have hN : ∀ m ∈ look cs n, m ∈ ns := fun m hm => by
    obtain ⟨i, hi, rfl⟩ := List.getElem_of_mem hm
    by_cases hc : (look cs n)[i] ∈ ns
    · exact hc
    · exact absurd ⟨_, List.getElem?_eq_getElem hi, hc⟩ (hy12.mp hye12 i (by rw [List.length_map]; exact hi))
  walk_at "gg"
  have t13 := t1.mono (Same.tj s013)
  refine g_isi t13.ty (kit_tuple t13) ?_
  walk_at "gg"
  cases hdt : isTupD d1 with
  | false =>
    walk_at "gg"
    refine bad (fun h => ?_) rfl s013
    obtain ⟨ms, e⟩ := h.2.ints
    rw [e] at hdt
    cases hdt
  | true =>
  have hF1 := hFw d1 (List.mem_of_getElem? hd1)
  cases t1 with
  | non => cases hdt
  | bl b => cases hdt
  | int i => cases hdt
  | str x => cases hdt
  | lst e => cases hdt
  | @tup ya ys yds ey tys =>
  obtain ⟨hyl, _⟩ := hF1.out
  have hly := tys.length
  walk_at "gg"
  rename_i p14 H14 n14 e14 s14
  have s014 := s013.trans s14
  refine g_eqT (s014 _ _ ey) e14 ?_
  walk_at "gg"
  rcases nil_snoc ys with hnil | ⟨ys0, yl, hys⟩
  · rw [hnil]
    walk_at "gg"
    refine bad (fun h => ?_) rfl s014
    obtain ⟨ms, e⟩ := h.2.ints
    cases e
    rw [hnil, List.length_map] at hly
    have : ms = [] := List.eq_nil_of_length_eq_zero hly.symm
    exact (wayP_ints.mp h.2).1 this
  refine g_F (by rw [hys]; simp) ?_
  walk_at "gg"
  refine g_seqT ?_
  walk_at "gg"
  refine lc_odd (s014 _ _ ey) (tys.mono (Same.tj s014)) (by omega) (fun _ => rfl) (fun _ => rfl) fun D15 y15 H15 n15 e15 hy15 s15 => ?_
  walk_at "gg"
  rename_i p16 H16 n16 e16 s16
  have s016 := s014.trans (s15.trans s16)
  cases hye15 : y15.isEmpty with
  | false =>
    walk_at "gg"
    refine bad (fun h => ?_) rfl s016
    obtain ⟨ms, e⟩ := h.2.ints
    cases e
    rw [hy15.mpr ⟨ms, rfl⟩] at hye15
    cases hye15
  | true =>
  obtain ⟨ms, rfl⟩ := hy15.mp hye15
  have hysm := jqs_ints tys
  have hmne : ms ≠ [] := by
    rintro rfl
    rw [hysm] at hys
    simp at hys
  obtain ⟨ml, hml⟩ : ∃ ml, ms.getLast? = some ml := by
    cases hc : ms.getLast? with
    | none => exact absurd (List.getLast?_eq_none_iff.mp hc) hmne
    | some x => exact ⟨x, rfl⟩
  obtain ⟨m0, hm0⟩ : ∃ m0, ms[0]? = some m0 := by
    cases ms with
    | nil => exact absurd rfl hmne
    | cons x l => exact ⟨x, rfl⟩
  rw [hysm] at ey hys
  have hyl1 : yl = .int ml := by
    have h1 : (ms.map V.int).getLast? = some yl := by rw [hys]; simp
    rw [List.getLast?_map, hml] at h1
    cases h1
    rfl
  rw [List.length_map] at hyl
  walk_at "gg"
  refine g_ixT (.of (s016 _ _ ey)) (v := .int m0) (atI_of (by decide) (by rw [List.getElem?_map]; show Option.map V.int ms[0]? = _; rw [hm0]; rfl)) ?_
  walk_at "gg"
  refine g_notLI (s016 _ _ era) ?_
  by_cases hr0 : m0 ∈ roots
  rotate_left
  · rw [decide_eq_false hr0]
    walk_at "gg"
    exact bad (fun h => hr0 ((wayP_ints.mp h.2).2.2.2.1 m0 hm0)) rfl s016
  rw [decide_eq_true hr0]
  walk_at "gg"
  refine g_ixT (.of (s016 _ _ ey)) (v := .int ml) (by rw [hys, hyl1]; exact atI_last _ _) ?_
  walk_at "gg"
  by_cases hmln : ml = n
  rotate_left
  · rw [decide_eq_false hmln]
    walk_at "gg"
    refine bad (fun h => ?_) rfl s016
    have := (wayP_ints.mp h.2).2.1
    rw [hml] at this
    cases this
    exact hmln rfl
  subst hmln
  rw [decide_eq_true rfl]
  walk_at "gg"
  refine g_seqT ?_
  walk_at "gg"
  refine lc_filtT (s016 _ _ ey) (by rw [List.length_map]; omega) (fun i => ∃ m, ms[i]? = some m ∧ m ∉ nums cs) ?_ fun D17 y17 H17 n17 e17 hy17 s17 => ?_
  · intro i x H' Na Nb hx s h1 h2
    rw [List.getElem?_map] at hx
    obtain ⟨m, hm, rfl⟩ := Option.map_eq_some_iff.mp hx
    walk_at "gg"
    refine ⟨rfl, ?_⟩
    walk_at "gg"
    refine g_notC (hC.same (s016.trans s)) ?_
    by_cases hc : m ∈ nums cs
    · rw [decide_eq_true hc]
      walk_at "gg"
      exact h2 _ (fun ⟨n', e, z⟩ => by rw [hm] at e; cases e; exact z hc) (.refl _)
    · rw [decide_eq_false hc]
      walk_at "gg"
      exact h1 _ _ ⟨m, hm, hc⟩ (.refl _)
  walk_at "gg"
  rename_i p18 H18 n18 e18 s18
  have s018 := s016.trans (s17.trans s18)
  cases hye17 : y17.isEmpty with
  | false =>
    walk_at "gg"
    refine bad (fun h => ?_) rfl s018
    rw [hy17.mpr (fun i hi ⟨m, e, z⟩ => z ((wayP_ints.mp h.2).2.2.1 m (List.mem_of_getElem? e)))] at hye17
    cases hye17
  | true =>
  have hM : ∀ m ∈ ms, m ∈ nums cs := fun m hm => by
    obtain ⟨i, hi, rfl⟩ := List.getElem_of_mem hm
    by_cases hc : ms[i] ∈ nums cs
    · exact hc
    · exact absurd ⟨_, List.getElem?_eq_getElem hi, hc⟩ (hy17.mp hye17 i (by rw [List.length_map]; exact hi))
  walk_at "gg"
  refine g_isrng (by rw [List.length_map]; omega) (by rw [List.length_map]; omega) ?_
  have hmpos : 0 < ms.length := List.length_pos_iff.mpr hmne
  rw [show (((List.map V.int ms).length : Int) - 1).toNat = ms.length - 1 from by rw [List.length_map]; omega]
  refine lc_bools (ms.length - 1) (by omega) (fun k => ∀ a b, ms[k]? = some a → ms[k + 1]? = some b → b ∈ look cs a) (fun i H' hi _ => hi) (fun H' _ => Nat.le_refl _) ?_ ?_
  · rintro k x H' _ Nx hk s ⟨rfl, hx⟩ hN
    have hxk : x = .int (k : Nat) := by rw [hx, Int.zero_add]
    subst hxk
    have hk1 : k < ms.length := by omega
    have hk2 : k + 1 < ms.length := by omega
    walk_at "gg"
    refine ⟨rfl, ?_⟩
    walk_at "gg"
    have sy := s018.trans s
    refine g_ixT (.of (sy _ _ ey)) (v := .int ms[k + 1]) (by rw [show ((k : Nat) : Int) + 1 = ((k + 1 : Nat) : Int) from rfl, atI_nat (by rw [List.getElem?_map, List.getElem?_eq_getElem hk2]; rfl)]) ?_
    walk_at "gg"
    refine g_ixT (.of (sy _ _ ey)) (v := .int ms[k]) (atI_nat (by rw [List.getElem?_map, List.getElem?_eq_getElem hk1]; rfl)) ?_
    walk_at "gg"
    refine g_ixC (hC.same sy) (hM _ (List.getElem_mem hk1)) fun v hv hvl => ?_
    walk_at "gg"
    refine ⟨v, _, rfl, hv, hvl, fun p6 H6 n6 e6 s6 => ?_⟩
    refine g_inLI e6 ?_
    refine hN _ _ ?_ s6
    rw [decide_eq_true_eq]
    exact ⟨fun h a b e1 e2 => by rw [List.getElem?_eq_getElem hk1] at e1; rw [List.getElem?_eq_getElem hk2] at e2; cases e1; cases e2; exact h, fun h => h _ _ (List.getElem?_eq_getElem hk1) (List.getElem?_eq_getElem hk2)⟩
  · intro D19 bs H19 n19 e19 hbl hbs s19
    have hb := all_bools hbl hbs
    have hall : bs.all id = true ↔ ∀ (j : Nat) a b, ms[j]? = some a → ms[j + 1]? = some b → b ∈ look cs a := hb.trans ⟨fun h j a b e1 e2 => h j (by have := (List.getElem?_eq_some_iff.mp e2).1; omega) a b e1 e2, fun h j _ a b e1 e2 => h j a b e1 e2⟩
    refine g_inFalse e19 ?_
    walk_at "gg"
    cases hba : bs.all id with
    | false =>
      walk_at "gg"
      refine bad (fun h => ?_) rfl (s018.trans s19)
      rw [hall.mpr (wayP_ints.mp h.2).2.2.2.2] at hba
      cases hba
    | true =>
      walk_at "gg"
      have hW : WayP cs roots (.tuple (ms.map PyData.int)) ml := wayP_ints.mpr ⟨hmne, hml, hM, fun m e => by rw [hm0] at e; cases e; exact hr0, hall.mp hba⟩
      have s819 : Same H9 H19 := s10.trans (s11.trans (s12.trans (s13.trans (s14.trans (s15.trans (s16.trans (s17.trans (s18.trans s19))))))))
      refine ⟨_, _, _, _, rfl, s9.trans s819, fun i n' wd hi e1 e2 => ?_⟩
      by_cases e : i = j
      · subst e
        rw [hn] at e1
        rw [hd1] at e2
        cases e1
        cases e2
        exact ⟨hN, hW⟩
      · exact hin i n' wd (by omega) e1 e2

/-! ### things bent: expressions by what they tell, pens drawn from meanwhile -/
def Ok (n : Nat) (v : V) (H : Hp) : Prop := ∃ d, Jq H v d ∧ Few n d
def TupV (xs : List V) (v : V) (H : Hp) : Prop := ∃ a, v = .ref a ∧ H a = some (.tup xs)
def SomeL (pen : Addr) (n m : Nat) (v : V) (H : Hp) : Prop := ∃ l vs, v = .ref l ∧ l ≠ pen ∧ H l = some (.lst vs) ∧ vs.length = m ∧ ∀ x ∈ vs, Ok n x H
theorem cutV_upto (xs : List V) (k : Nat) : cutV xs none (some (k : Int)) = xs.take k := by
  unfold cutV
  rw [HT.sIx_none, HT.sIx_nat, Nat.sub_zero, List.drop_zero]
  by_cases h : k ≤ xs.length
  · rw [Nat.min_eq_left h]
  · rw [Nat.min_eq_right (by omega), List.take_of_length_le (Nat.le_refl _), List.take_of_length_le (by omega)]
theorem cutV_ahead (xs : List V) (k : Nat) : cutV xs (some (k : Int)) none = xs.drop k := by
  unfold cutV
  rw [HT.sIx_none, HT.sIx_nat]
  by_cases h : k ≤ xs.length
  · rw [Nat.min_eq_left h, List.take_of_length_le (by rw [List.length_drop]; omega)]
  · rw [Nat.min_eq_right (by omega), List.drop_of_length_le (Nat.le_refl _), List.drop_of_length_le (by omega)]
    simp
section
variable {K : PySem.W.Frag} {w : World} {pen L : Addr} {σ : L2.St} {H0 H H' : Hp} {n m k : Nat} {P : V → Hp → Prop} {te tf : TE} {ta : TA} {xs ys us : List V}
theorem PenAt.tj (h : PenAt H pen L) (h' : PenAt H' pen L) (c : Chg pen H H') : Tj H H' := by
  obtain ⟨_, _, _, hp, _⟩ := h
  obtain ⟨_, _, _, hp', _⟩ := h'
  exact c.tj hp hp'
theorem Ok.to {v : V} (h : Ok n v H) (t : Tj H H') : Ok n v H' := by
  obtain ⟨d, h1, h2⟩ := h
  exact ⟨d, h1.mono t, h2⟩
theorem Ok.up {v : V} (h : Ok n v H) (hm : n ≤ m) : Ok m v H := by
  obtain ⟨d, h1, h2⟩ := h
  exact ⟨d, h1, h2.up hm⟩
theorem Oks.data : ∀ {xs : List V}, (∀ x ∈ xs, Ok n x H) → ∃ ds, Jqs H xs ds ∧ ∀ d ∈ ds, Few n d
  | [], _ => ⟨[], .nil, fun d h => by cases h⟩
  | x :: xs, h => by
    obtain ⟨d, h1, h2⟩ := h x List.mem_cons_self
    obtain ⟨ds, h3, h4⟩ := Oks.data fun y hy => h y (List.mem_cons_of_mem _ hy)
    exact ⟨d :: ds, .cons h1 h3, fun e he => (List.mem_cons.mp he).elim (fun z => z ▸ h2) (h4 e)⟩
theorem Ok.tup {a : Addr} (e : H a = some (.tup xs)) (h : ∀ x ∈ xs, Ok n x H) (hl : xs.length ≤ n) : Ok n (.ref a) H := by
  obtain ⟨ds, h1, h2⟩ := Oks.data h
  exact ⟨.tuple ds, .tup e h1, .tup (by rw [← h1.length]; exact hl) h2⟩
theorem Ok.int (i : Int) : Ok n (.int i) H := ⟨.int i, .int i, .oth rfl⟩
theorem Ok.bl (b : Bool) : Ok n (.bl b) H := ⟨.bool b, .bl b, .oth rfl⟩
theorem Ok.non : Ok n .non H := ⟨.none, .non, .oth rfl⟩
theorem Ok.lst {a : Addr} (e : H a = some (.lst xs)) : Ok n (.ref a) H := ⟨.list [], .lst e, .oth rfl⟩
def Stab (pen L : Addr) (P : V → Hp → Prop) : Prop := ∀ v H H', P v H → PenAt H pen L → PenAt H' pen L → Chg pen H H' → P v H'
theorem stab_ok : Stab pen L (Ok n) := fun v H H' h p p' c => h.to (p.tj p' c)
def Ev (pen L : Addr) (σ : L2.St) (H0 : Hp) (P : V → Hp → Prop) (te : TE) : Prop := ∀ (H : Hp) (Q : VK), Chg pen H0 H → PenAt H pen L → (∀ v H', P v H' → Chg pen H H' → PenAt H' pen L → Q v H') → te σ H Q
def Evs (pen L : Addr) (σ : L2.St) (H0 : Hp) (n : Nat) (P : V → Hp → Prop) (ta : TA) : Prop := ∀ (H : Hp) (Q : List V → Hp → Prop), Chg pen H0 H → PenAt H pen L → (∀ vs H', vs.length = n → (∀ v ∈ vs, P v H') → Chg pen H H' → PenAt H' pen L → Q vs H') → ta σ H Q
/-- an expression that tells a number that is known, and changes nothing -/
def EvI (σ : L2.St) (i : Int) (te : TE) : Prop := ∀ (H : Hp) (Q : VK), Q (.int i) H → te σ H Q
theorem evs_nil : Evs pen L σ H0 0 P tNil := fun H Q c p q => q [] H rfl (fun v h => by cases h) .refl p
theorem evs_cons (hS : Stab pen L P) (h : Ev pen L σ H0 P te) (t : Evs pen L σ H0 n P ta) : Evs pen L σ H0 (n + 1) P (tCons te ta) := fun H Q c p q =>
  h H _ c p fun v H1 hv c1 p1 => t H1 _ (c.trans c1) p1 fun vs H2 hl hvs c2 p2 => q (v :: vs) H2 (by rw [List.length_cons, hl]) (fun x hx => (List.mem_cons.mp hx).elim (fun e => e ▸ hS v H1 H2 hv p1 p2 c2) (hvs x)) (c1.trans c2) p2
theorem evi_var {j : Nat} {i : Int} (h : σ[j]? = some (some (.int i))) : EvI σ i (tVar j) := fun H Q q => g_var h q
theorem evi_next {i : Int} (h : EvI σ i te) : EvI σ (i + 1) (tOp (rAddG K) te (tC (.int 1))) := fun H Q q => g_op (h H _ (g_c (g_addI q)))
theorem ev_c {v : V} (h : ∀ H, P v H) : Ev pen L σ H0 P (tC v) := fun H Q c p q => q v H (h H) .refl p
theorem ev_var {j : Nat} {v : V} (h : σ[j]? = some (some v)) (hp : P v H0) (p0 : PenAt H0 pen L) (hS : Stab pen L P) : Ev pen L σ H0 P (tVar j) := fun H Q c p q => g_var h (q v H (hS v H0 H hp p0 p c) .refl p)
theorem stab_tup : Stab pen L (TupV xs) := fun v H H' ⟨a, e, h⟩ p p' c => ⟨a, e, (p.tj p' c).tup _ _ h⟩
theorem ev_tup0 : Ev pen L σ H0 (TupV []) (tTupN tNil) := fun H Q c p q => g_tup (g_nil (g_len (by decide) (New.mk fun a H1 _ e s => q _ H1 ⟨a, rfl, e⟩ (.same s) (p.same s))))
theorem ev_one {v : V} (h : ∀ (H : Hp) (Q : VK), Chg pen H0 H → PenAt H pen L → Q v H → te σ H Q) : Ev pen L σ H0 (TupV [v]) (tTupN (tCons te tNil)) := fun H Q c p q =>
  g_tup (g_cons (h H _ c p (g_nil (g_len (by show 1 ≤ 16777216; omega) (New.mk fun a H1 _ e s => q _ H1 ⟨a, rfl, e⟩ (.same s) (p.same s))))))
theorem ev_upto {j : Nat} (h : Ev pen L σ H0 (TupV us) te) (hi : EvI σ (j : Int) tf) : Ev pen L σ H0 (TupV (us.take j)) (tSl (rSlG K) te tNoPart (tPart tf)) := fun H Q c p q =>
  g_sl (h H _ c p fun v H1 ⟨a, e, ea⟩ c1 p1 => g_nopart (g_part (hi H1 _ (g_ispart (by
    subst e
    refine .inr (.inl ⟨a, us, rfl, .of ea, fun z => ?_, fun _ b H2 _ e2 s2 => ?_⟩)
    · refine q _ H1 ⟨a, rfl, ?_⟩ c1 p1
      rw [← cutV_upto]
      unfold cutV
      rw [z.1, z.2]
      simpa using ea
    · rw [cutV_upto] at e2
      exact q _ H2 ⟨b, rfl, e2⟩ (c1.trans (.same s2)) (p1.same s2))))))
theorem ev_from {j : Nat} (h : Ev pen L σ H0 (TupV us) te) (hi : EvI σ (j : Int) tf) : Ev pen L σ H0 (TupV (us.drop j)) (tSl (rSlG K) te (tPart tf) tNoPart) := fun H Q c p q =>
  g_sl (h H _ c p fun v H1 ⟨a, e, ea⟩ c1 p1 => g_part (hi H1 _ (g_ispart (g_nopart (by
    subst e
    refine .inr (.inl ⟨a, us, rfl, .of ea, fun z => ?_, fun _ b H2 _ e2 s2 => ?_⟩)
    · refine q _ H1 ⟨a, rfl, ?_⟩ c1 p1
      rw [← cutV_ahead]
      unfold cutV
      rw [z.1, z.2]
      simpa using ea
    · rw [cutV_ahead] at e2
      exact q _ H2 ⟨b, rfl, e2⟩ (c1.trans (.same s2)) (p1.same s2))))))
theorem ev_add (h : Ev pen L σ H0 (TupV xs) te) (g : Ev pen L σ H0 (TupV ys) tf) (hl : xs.length + ys.length ≤ 10000) : Ev pen L σ H0 (TupV (xs ++ ys)) (tOp (rAddG K) te tf) := fun H Q c p q =>
  g_op (h H _ c p fun v H1 hv c1 p1 => g H1 _ (c.trans c1) p1 fun u H2 hu c2 p2 => by
    obtain ⟨a, rfl, ea⟩ := stab_tup v H1 H2 hv p1 p2 c2
    obtain ⟨b, rfl, eb⟩ := hu
    refine .inr (.inr (.inr ⟨a, b, xs, ys, rfl, rfl, .of ea, .of eb, by show _ ≤ 16777216; omega, fun e => ?_, fun _ e => ?_, fun _ _ x H3 _ e3 s3 => q _ H3 ⟨x, rfl, e3⟩ (c1.trans (c2.trans (.same s3))) (p2.same s3)⟩))
    · subst e
      exact q _ H2 ⟨b, rfl, eb⟩ (c1.trans c2) p2
    · subst e
      exact q _ H2 ⟨a, rfl, by rw [List.append_nil]; exact ea⟩ (c1.trans c2) p2)
theorem ev_rev (h : Ev pen L σ H0 (TupV xs) te) : Ev pen L σ H0 (TupV xs.reverse) (tRevT K te) := fun H Q c p q =>
  g_revT (h H _ c p fun v H1 ⟨a, e, ea⟩ c1 p1 => ⟨a, xs, e, .of ea, New.mk fun b H2 _ e2 s2 => q _ H2 ⟨b, rfl, e2⟩ (c1.trans (.same s2)) (p1.same s2)⟩)
theorem ev_ok (h : Ev pen L σ H0 (TupV xs) te) (p0 : PenAt H0 pen L) (hx : ∀ x ∈ xs, Ok n x H0) (hl : xs.length ≤ n) : Ev pen L σ H0 (Ok n) te := fun H Q c p q =>
  h H _ c p fun v H1 ⟨a, e, ea⟩ c1 p1 => q v H1 (by subst e; exact .tup ea (fun x hm => (hx x hm).to (p0.tj p1 (c.trans c1))) hl) c1 p1
theorem ev_list (h : Ev pen L σ H0 (TupV xs) te) : Ev pen L σ H0 (Ok n) (tCB (rListG K) (tCons te tNil)) := fun H Q c p q =>
  g_cb (g_cons (h H _ c p fun v H1 ⟨a, e, ea⟩ c1 p1 => g_nil (by subst e; exact g_listT (.of ea) (New.mk fun b H2 _ e2 s2 => q _ H2 (.lst e2) (c1.trans (.same s2)) (p1.same s2)))))
theorem ev_lst0 (h : Evs pen L σ H0 m P ta) (hm : m ≤ 1000) : Ev pen L σ H0 (Ok n) (tLstN ta) := fun H Q c p q =>
  g_lst (h H _ c p fun vs H1 hl _ c1 p1 => g_len (by show _ ≤ 16777216; omega) (New.mk fun b H2 _ e2 s2 => q _ H2 (.lst e2) (c1.trans (.same s2)) (p1.same s2)))
theorem ev_some (h : Evs pen L σ H0 m (Ok n) ta) (hm : m ≤ 1000) : Ev pen L σ H0 (SomeL pen n m) (tLstN ta) := fun H Q c p q =>
  g_lst (h H _ c p fun vs H1 hl hv c1 p1 => g_len (by show _ ≤ 16777216; omega) (New.mk fun b H2 nb e2 s2 => q _ H2 ⟨b, vs, rfl, (p1.ne nb).1.symm, e2, hl, fun x hx => (hv x hx).to (Same.tj s2)⟩ (c1.trans (.same s2)) (p1.same s2)))
theorem SomeL.st {v : V} (h : SomeL pen n m v H) (p : PenAt H pen L) (p' : PenAt H' pen L) (c : Chg pen H H') : SomeL pen n m v H' := by
  obtain ⟨l, vs, e, hn, el, hl, hv⟩ := h
  exact ⟨l, vs, e, hn, c _ _ hn el, hl, fun x hx => (hv x hx).to (p.tj p' c)⟩
theorem ev_more (h : Ev pen L σ H0 (SomeL pen n m) te) (g : Ev pen L σ H0 (SomeL pen n k) tf) (hm : m + k ≤ 1000) : Ev pen L σ H0 (SomeL pen n (m + k)) (tOp (rAddG K) te tf) := fun H Q c p q =>
  g_op (h H _ c p fun v H1 hv c1 p1 => g H1 _ (c.trans c1) p1 fun u H2 hu c2 p2 => by
    obtain ⟨l, vs, rfl, hn, el, hl, hvs⟩ := hv.st p1 p2 c2
    obtain ⟨b, us, rfl, hb, eb, hlb, hus⟩ := hu
    refine g_addL el eb (by show _ ≤ 16777216; omega) (New.mk fun x H3 nx e3 s3 => q _ H3 ⟨x, vs ++ us, rfl, (p2.ne nx).1.symm, e3, by rw [List.length_append, hl, hlb], fun y hy => ?_⟩ (c1.trans (c2.trans (.same s3))) (p2.same s3))
    rcases List.mem_append.mp hy with z | z
    · exact (hvs y z).to (Same.tj s3)
    · exact (hus y z).to (Same.tj s3))
theorem ev_pick {i : Int} (h : Ev pen L σ H0 (SomeL pen n m) te) (h0 : σ[0]? = some (some (.ref pen))) (hi : i = (m : Int)) (hm : 1 ≤ m) (hm2 : m ≤ 1000) : Ev pen L σ H0 (Ok n) (tIxG K w te (tCall spDraw [] E0 (tCons (tVar 0) (tCons (tC (.int i)) tNil)))) := fun H Q c p q =>
  g_ixop (h H _ c p fun v H1 hv c1 p1 => g_call (g_cons (g_var h0 (g_cons (g_c (g_nil (g_draw p1 (by omega) (by rw [hi]; exact Nat.lt_of_le_of_lt (by omega : _ ≤ 1000) (by decide)) fun y H2 y0 y1 p2 c2 => by
    obtain ⟨l, vs, rfl, hn, el, hl, hvs⟩ := hv.st p1 p2 c2
    obtain ⟨x, hx, hmx, _⟩ := atI_in (xs := vs) y0 (by rw [hl]; omega)
    exact g_ixL (.of el) hx (q x H2 (hvs x hmx) (c1.trans c2) p2))))))))
end

/-! ### a row, a paper bent -/
def spBentRow : Sp := fun vs H Q _ => ∃ (pen L na : Addr) (v : V) (ns : List Int) (n : Nat), vs = [.ref pen, v, .ref na] ∧ PenAt H pen L ∧ na ≠ pen ∧ H na = some (.lst (ns.map V.int)) ∧ ns ≠ [] ∧ ns.length ≤ 100 ∧ Ok n v H ∧ 1 ≤ n ∧ n ≤ 500 ∧
  ∀ (u : V) (H' : Hp), Ok (n + 1) u H' → Chg pen H H' → PenAt H' pen L → Q u H'
theorem pure_bentrow {K : PySem.W.Frag} {w : World} : PureOk 3 spBentRow (t_law_bent_row K w spDraw) 6 := by
  refine ⟨fun vs H Q E ⟨_, _, _, _, _, _, e, _⟩ => by rw [e]; rfl, ?_⟩
  rintro vs H Q E ⟨pen, L, na, v, ns, n, rfl, hP, hna, ena, hne, hnl, hv, hn1, hn5, q⟩
  show t_law_bent_row K w _ _ [some (.ref pen), some v, some (.ref na), none, none, none] H
  unfold t_law_bent_row
  obtain ⟨d, jv, fv⟩ := hv
  have hnpos : 0 < ns.length := List.length_pos_iff.mpr hne
  have first : ∀ {σ : L2.St} {H0 : Hp} {x3 x4 x5 : Option V}, Chg pen H H0 → σ = [some (.ref pen), some v, some (.ref na), x3, x4, x5] → PenAt H0 pen L →
      Ev pen L σ H0 (Ok (n + 1)) (tIxG K w (tLstN (tCons (tTupN tNil) (tCons (tTupN (tCons (tIxG K w (tVar 2) (tC (.int 0))) tNil)) (tCons (tLstN tNil) (tCons (tC .non) tNil))))) (tCall spDraw [] E0 (tCons (tVar 0) (tCons (tC (.int 4)) tNil)))) := by
    intro σ H0 x3 x4 x5 c0 hσ p0
    subst hσ
    obtain ⟨x, l, hx⟩ : ∃ x l, ns = x :: l := by
      cases ns with
      | nil => exact absurd rfl hne
      | cons x l => exact ⟨x, l, rfl⟩
    refine ev_pick (m := 4) (ev_some (evs_cons stab_ok (ev_ok (xs := []) ev_tup0 p0 (by simp) (by simp)) (evs_cons stab_ok (ev_ok (xs := [.int x]) (ev_one fun H1 Q1 c1 p1 q1 => ?_) p0 (by intro y hy; simp at hy; subst hy; exact .int x) (by simp)) (evs_cons stab_ok (ev_lst0 (P := Ok 0) evs_nil (by omega)) (evs_cons stab_ok (ev_c fun _ => .non) evs_nil)))) (by omega)) rfl rfl (by omega) (by omega)
    refine g_ixop (g_var rfl (g_c ?_))
    exact g_ixL (.of (c1 _ _ hna (c0 _ _ hna ena))) (v := .int x) (atI_of (by decide) (by rw [hx]; rfl)) q1
  have other : ∀ {H0 : Hp}, Chg pen H H0 → PenAt H0 pen L → (∀ xs, v ≠ .ref xs ∨ True) → tRet (tIxG K w (tLstN (tCons (tTupN tNil) (tCons (tTupN (tCons (tIxG K w (tVar 2) (tC (.int 0))) tNil)) (tCons (tLstN tNil) (tCons (tC .non) tNil))))) (tCall spDraw [] E0 (tCons (tVar 0) (tCons (tC (.int 4)) tNil)))) { nx := fun _ H' => Q .non H', rt := Q } [some (.ref pen), some v, some (.ref na), none, none, none] H0 := by
    intro H0 c0 p0 _
    exact g_ret (first c0 rfl p0 H0 _ .refl p0 fun u H1 hu c1 p1 => q u H1 hu (c0.trans c1) p1)
  refine g_seq (g_ifs (g_or (g_not (g_tru (g_cb (g_cons (g_var rfl (g_cons (g_c (g_nil ?_)))))))))) 
  refine g_isi jv.ty (kit_tuple jv) (g_trubl ?_)
  cases ht : isTupD d with
  | false =>
    refine g_T rfl (g_T rfl ?_)
    exact g_ret (first .refl rfl hP H _ .refl hP fun u H1 hu c1 p1 => q u H1 hu c1 p1)
  | true =>
  cases jv with
  | non => cases ht
  | bl b => cases ht
  | int i => cases ht
  | str x => cases ht
  | lst e => cases ht
  | @tup a us ds ea tus =>
  obtain ⟨hdl, hFd⟩ := fv.out
  have hlen := tus.length
  refine g_F rfl (g_test (g_op (g_var rfl (g_tup (g_nil (g_len (by decide) (New.mk fun p1 H1 n1 e1 s1 => ?_)))))))
  refine g_eqT (s1 _ _ ea) e1 (g_bl ?_)
  have hP1 := hP.same s1
  cases hus : us.isEmpty with
  | true =>
    refine g_T rfl ?_
    exact g_ret (first (.same s1) rfl hP1 H1 _ .refl hP1 fun u H2 hu c1 p1 => q u H2 hu ((Chg.same s1).trans c1) p1)
  | false =>
  refine g_F rfl ?_
  have hupos : 0 < us.length := by
    cases us with
    | nil => cases hus
    | cons x l => simp
  walk_at "gg"
  refine g_draw hP1 (by omega) (Nat.lt_of_le_of_lt (by omega : _ ≤ 1000) (by decide)) fun k H2 k0 k1 hP2 c2 => ?_
  obtain ⟨j, rfl⟩ := Int.eq_ofNat_of_zero_le k0
  have hj : j < us.length := by omega
  have c02 : Chg pen H H2 := (Chg.same s1).trans c2
  have ena2 := c02 _ _ hna ena
  walk_at "gg"
  refine g_draw hP2 (by rw [List.length_map]; omega) (Nat.lt_of_le_of_lt (by rw [List.length_map]; omega : _ ≤ 1000) (by decide)) fun k H3 k0' k1' hP3 c3 => ?_
  have c03 := c02.trans c3
  have ena3 := c03 _ _ hna ena
  obtain ⟨x, hx, hxm, _⟩ := atI_in k0' k1'
  obtain ⟨o, ho, rfl⟩ := List.mem_map.mp hxm
  refine g_ixL (.of ena3) hx ?_
  walk_at "g1"
  have hTj := hP.tj hP3 c03
  have ea3 : H3 a = some (.tup us) := hTj.tup _ _ ea
  have hus3 : ∀ y ∈ us, Ok n y H3 := fun y hy => by
    obtain ⟨i, hi, rfl⟩ := List.getElem_of_mem hy
    obtain ⟨d, hd, t⟩ := tus.at (List.getElem?_eq_getElem hi)
    exact ⟨d, t.mono hTj, hFd d (List.mem_of_getElem? hd)⟩
  have hul : us.length ≤ n := by omega
  have okm : ∀ {xs : List V} {H' : Hp}, Chg pen H3 H' → PenAt H' pen L → (∀ y ∈ xs, Ok n y H3) → ∀ y ∈ xs, Ok (n + 1) y H' := fun c p h y hy => ((h y hy).to (hP3.tj p c)).up (Nat.le_succ n)
  have hI : ∀ i, Ok n (.int i) H3 := fun i => .int i
  have ht : ∀ i, ∀ y ∈ us.take i, Ok n y H3 := fun i y hy => hus3 y (List.mem_of_mem_take hy)
  have hd : ∀ i, ∀ y ∈ us.drop i, Ok n y H3 := fun i y hy => hus3 y (List.mem_of_mem_drop hy)
  have ap : ∀ {xs ys : List V}, (∀ y ∈ xs, Ok n y H3) → (∀ y ∈ ys, Ok n y H3) → ∀ y ∈ xs ++ ys, Ok n y H3 := fun h1 h2 y hy => (List.mem_append.mp hy).elim (h1 y) (h2 y)
  have sg : ∀ {z : V}, Ok n z H3 → ∀ y ∈ [z], Ok n y H3 := fun h y hy => by rw [List.mem_singleton] at hy; rw [hy]; exact h
  have row : ∀ {σ : L2.St} {H0 : Hp}, Chg pen H3 H0 → PenAt H0 pen L → σ[1]? = some (some (.ref a)) → Ev pen L σ H0 (TupV us) (tVar 1) := fun c p h => ev_var h ⟨a, rfl, (hP3.tj p c).tup _ _ ea3⟩ p stab_tup
  have at_ : ∀ {σ : L2.St}, σ[3]? = some (some (.int (j : Int))) → EvI σ (j : Int) (tVar 3) := fun h => evi_var h
  have nx : ∀ {σ : L2.St}, σ[3]? = some (some (.int (j : Int))) → EvI σ ((j + 1 : Nat) : Int) (tOp (rAddG K) (tVar 3) (tC (.int 1))) := fun h => evi_next (evi_var h)
  have oth : ∀ {σ : L2.St} {H0 : Hp}, σ[4]? = some (some (.int o)) → Ev pen L σ H0 (TupV [.int o]) (tTupN (tCons (tVar 4) tNil)) := fun h => ev_one fun H1 Q1 c1 p1 q1 => g_var h q1
  walk_at "g1"
  refine g_asg (ev_some (n := n + 1) (m := 6) ?_ (by omega) H3 _ .refl hP3 fun v1 H4 hv1 c4 hP4 => ?_)
  · have r := row (σ := [some (.ref pen), some (.ref a), some (.ref na), some (.int (j : Int)), some (.int o), none]) .refl hP3 rfl
    refine evs_cons stab_ok (ev_ok (ev_add (ev_upto r (at_ rfl)) (ev_from r (nx rfl)) (by simp; omega)) hP3 (okm .refl hP3 (ap (ht _) (hd _))) (by simp; omega)) ?_
    refine evs_cons stab_ok (ev_ok (ev_add (ev_upto r (nx rfl)) (ev_from r (at_ rfl)) (by simp; omega)) hP3 (okm .refl hP3 (ap (ht _) (hd _))) (by simp; omega)) ?_
    refine evs_cons stab_ok (ev_ok (ev_add (ev_add (ev_upto r (at_ rfl)) (oth rfl) (by simp; omega)) (ev_from r (nx rfl)) (by simp; omega)) hP3 (okm .refl hP3 (ap (ap (ht _) (sg (hI _))) (hd _))) (by simp; omega)) ?_
    refine evs_cons stab_ok (ev_ok (ev_rev r) hP3 (okm .refl hP3 fun y hy => hus3 y (List.mem_reverse.mp hy)) (by simp; omega)) ?_
    refine evs_cons stab_ok (ev_list r) ?_
    exact evs_cons stab_ok (ev_ok (ev_upto r (at_ rfl)) hP3 (okm .refl hP3 (ht _)) (by simp; omega)) evs_nil
  walk_at "g1"
  walk_at "g1"
  refine g_asg (ev_more (n := n + 1) (m := 6) (k := 4) (ev_var rfl hv1 hP4 fun v H H' h p p' c => h.st p p' c) (ev_some ?_ (by omega)) (by omega) H4 _ .refl hP4 fun v2 H5 hv2 c5 hP5 => ?_)
  · have r := row (σ := [some (.ref pen), some (.ref a), some (.ref na), some (.int (j : Int)), some (.int o), some v1]) c4 hP4 rfl
    refine evs_cons stab_ok (ev_ok (ev_add r (oth rfl) (by simp; omega)) hP4 (okm c4 hP4 (ap hus3 (sg (hI _)))) (by simp; omega)) ?_
    refine evs_cons stab_ok (ev_ok (ev_add (oth rfl) r (by simp; omega)) hP4 (okm c4 hP4 (ap (sg (hI _)) hus3)) (by simp; omega)) ?_
    refine evs_cons stab_ok (ev_ok (ev_add (ev_add (ev_upto r (at_ rfl)) (ev_one (v := .bl true) fun H1 Q1 c1 p1 q1 => g_c q1) (by simp; omega)) (ev_from r (nx rfl)) (by simp; omega)) hP4 (okm c4 hP4 (ap (ap (ht _) (sg (.bl true))) (hd _))) (by simp; omega)) ?_
    exact evs_cons stab_ok (ev_ok (ev_add (ev_add (ev_upto r (at_ rfl)) (ev_one (v := .non) fun H1 Q1 c1 p1 q1 => g_c q1) (by simp; omega)) (ev_from r (nx rfl)) (by simp; omega)) hP4 (okm c4 hP4 (ap (ap (ht _) (sg .non)) (hd _))) (by simp; omega)) evs_nil
  walk_at "g1"
  have c35 := c4.trans c5
  walk_at "g1"
  refine g_asg (ev_more (n := n + 1) (m := 10) (k := 4) (ev_var rfl hv2 hP5 fun v H H' h p p' c => h.st p p' c) (ev_some ?_ (by omega)) (by omega) H5 _ .refl hP5 fun v3 H6 hv3 c6 hP6 => ?_)
  · have r := row (σ := [some (.ref pen), some (.ref a), some (.ref na), some (.int (j : Int)), some (.int o), some v2]) c35 hP5 rfl
    refine evs_cons stab_ok (ev_ok (ev_add (ev_add (ev_upto r (at_ rfl)) (ev_one (v := .int (o + 1)) fun H1 Q1 c1 p1 q1 => g_op (g_var rfl (g_c (g_addI q1)))) (by simp; omega)) (ev_from r (nx rfl)) (by simp; omega)) hP5 (okm c35 hP5 (ap (ap (ht _) (sg (hI _))) (hd _))) (by simp; omega)) ?_
    refine evs_cons stab_ok (ev_c fun _ => .non) (evs_cons stab_ok (ev_ok (xs := []) ev_tup0 hP5 (by simp) (by simp)) (evs_cons stab_ok (ev_ok r hP5 (okm c35 hP5 hus3) (by omega)) evs_nil))
  walk_at "g1"
  walk_at "g1"
  exact ev_pick (m := 14) (ev_var rfl hv3 hP6 fun v H H' h p p' c => h.st p p' c) rfl rfl (by omega) (by omega) H6 _ .refl hP6 fun u H7 hu c7 hP7 => q u H7 hu (c03.trans (c35.trans (c6.trans c7))) hP7

/-! ### a paper bent -/
def spBentPaper : Sp := fun vs H Q _ => ∃ (pen L na : Addr) (v : V) (ns : List Int) (n : Nat), vs = [.ref pen, v, .ref na] ∧ PenAt H pen L ∧ na ≠ pen ∧ H na = some (.lst (ns.map V.int)) ∧ ns ≠ [] ∧ ns.length ≤ 100 ∧ Ok n v H ∧ 2 ≤ n ∧ n ≤ 400 ∧
  ∀ (u : V) (H' : Hp), Ok (n + 1) u H' → Chg pen H H' → PenAt H' pen L → Q u H'
theorem ev_bentrow {pen L na : Addr} {σ : L2.St} {H0 : Hp} {ns : List Int} {n : Nat} {te : TE} (h0 : σ[0]? = some (some (.ref pen))) (h2 : σ[2]? = some (some (.ref na))) (hna : na ≠ pen) (ena : H0 na = some (.lst (ns.map V.int))) (hne : ns ≠ []) (hnl : ns.length ≤ 100) (hn1 : 1 ≤ n) (hn5 : n ≤ 500)
    (h : Ev pen L σ H0 (Ok n) te) : Ev pen L σ H0 (Ok (n + 1)) (tCall spBentRow [] E0 (tCons (tVar 0) (tCons te (tCons (tVar 2) tNil)))) := fun H Q c p q =>
  g_call (g_cons (g_var h0 (g_cons (h H _ c p fun v H1 hv c1 p1 => g_cons (g_var h2 (g_nil ⟨pen, L, na, v, ns, n, rfl, p1, hna, c1 _ _ hna (c _ _ hna ena), hne, hnl, hv, hn1, hn5, fun u H2 hu c2 p2 => q u H2 hu (c1.trans c2) p2⟩))))))
theorem ev_pair {pen L : Addr} {σ : L2.St} {H0 : Hp} {n : Nat} {te tf : TE} (h : Ev pen L σ H0 (Ok n) te) (g : Ev pen L σ H0 (Ok n) tf) (hn : 2 ≤ n) : Ev pen L σ H0 (Ok n) (tTupN (tCons te (tCons tf tNil))) := fun H Q c p q =>
  g_tup (evs_cons stab_ok h (evs_cons stab_ok g evs_nil) H _ c p fun vs H1 hl hv c1 p1 => g_len (by rw [hl]; decide) (New.mk fun a H2 _ e s => q _ H2 (.tup e (fun x hx => (hv x hx).to (Same.tj s)) (by rw [hl]; exact hn)) (c1.trans (.same s)) (p1.same s)))
theorem ev_sing {pen L : Addr} {σ : L2.St} {H0 : Hp} {n : Nat} {te : TE} (h : Ev pen L σ H0 (Ok n) te) (hn : 1 ≤ n) : Ev pen L σ H0 (Ok n) (tTupN (tCons te tNil)) := fun H Q c p q =>
  g_tup (evs_cons stab_ok h evs_nil H _ c p fun vs H1 hl hv c1 p1 => g_len (by rw [hl]; decide) (New.mk fun a H2 _ e s => q _ H2 (.tup e (fun x hx => (hv x hx).to (Same.tj s)) (by rw [hl]; exact hn)) (c1.trans (.same s)) (p1.same s)))
theorem ev_up {pen L : Addr} {σ : L2.St} {H0 : Hp} {n m : Nat} {te : TE} (h : Ev pen L σ H0 (Ok n) te) (hn : n ≤ m) : Ev pen L σ H0 (Ok m) te := fun H Q c p q => h H Q c p fun v H1 hv => q v H1 (hv.up hn)
/-- a tuple told, of things that are Ok; with a new one among them -/
def TupOk (n m : Nat) (v : V) (H : Hp) : Prop := ∃ a xs, v = .ref a ∧ H a = some (.tup xs) ∧ xs.length ≤ m ∧ ∀ x ∈ xs, Ok n x H
theorem TupOk.st {pen L : Addr} {n m : Nat} {v : V} {H H' : Hp} (h : TupOk n m v H) (p : PenAt H pen L) (p' : PenAt H' pen L) (c : Chg pen H H') : TupOk n m v H' := by
  obtain ⟨a, xs, e, ea, hl, hx⟩ := h
  exact ⟨a, xs, e, (p.tj p' c).tup _ _ ea, hl, fun x h => (hx x h).to (p.tj p' c)⟩
theorem ev_tok {pen L : Addr} {σ : L2.St} {H0 : Hp} {n m : Nat} {xs : List V} {te : TE} (h : Ev pen L σ H0 (TupV xs) te) (p0 : PenAt H0 pen L) (hx : ∀ x ∈ xs, Ok n x H0) (hl : xs.length ≤ m) : Ev pen L σ H0 (TupOk n m) te := fun H Q c p q =>
  h H _ c p fun v H1 ⟨a, e, ea⟩ c1 p1 => q v H1 ⟨a, xs, e, ea, hl, fun x hm => (hx x hm).to (p0.tj p1 (c.trans c1))⟩ c1 p1
theorem ev_tsing {pen L : Addr} {σ : L2.St} {H0 : Hp} {n : Nat} {te : TE} (h : Ev pen L σ H0 (Ok n) te) : Ev pen L σ H0 (TupOk n 1) (tTupN (tCons te tNil)) := fun H Q c p q =>
  g_tup (evs_cons stab_ok h evs_nil H _ c p fun vs H1 hl hv c1 p1 => g_len (by rw [hl]; decide) (New.mk fun a H2 _ e s => q _ H2 ⟨a, vs, rfl, e, by omega, fun x hx => (hv x hx).to (Same.tj s)⟩ (c1.trans (.same s)) (p1.same s)))
theorem ev_tadd {K : PySem.W.Frag} {pen L : Addr} {σ : L2.St} {H0 : Hp} {n m k : Nat} {te tf : TE} (h : Ev pen L σ H0 (TupOk n m) te) (g : Ev pen L σ H0 (TupOk n k) tf) (hm : m + k ≤ 10000) : Ev pen L σ H0 (TupOk n (m + k)) (tOp (rAddG K) te tf) := fun H Q c p q =>
  g_op (h H _ c p fun v H1 hv c1 p1 => g H1 _ (c.trans c1) p1 fun u H2 hu c2 p2 => by
    obtain ⟨a, xs, rfl, ea, hla, hxs⟩ := hv.st p1 p2 c2
    obtain ⟨b, ys, rfl, eb, hlb, hys⟩ := hu
    have hap : ∀ x ∈ xs ++ ys, Ok n x H2 := fun x hx => (List.mem_append.mp hx).elim (hxs x) (hys x)
    refine .inr (.inr (.inr ⟨a, b, xs, ys, rfl, rfl, .of ea, .of eb, by show _ ≤ 16777216; omega, fun e => ?_, fun _ e => ?_, fun _ _ x H3 _ e3 s3 => q _ H3 ⟨x, xs ++ ys, rfl, e3, by rw [List.length_append]; omega, fun y hy => (hap y hy).to (Same.tj s3)⟩ (c1.trans (c2.trans (.same s3))) (p2.same s3)⟩))
    · exact q _ H2 ⟨b, ys, rfl, eb, by omega, hys⟩ (c1.trans c2) p2
    · exact q _ H2 ⟨a, xs, rfl, ea, by omega, hxs⟩ (c1.trans c2) p2)
theorem ev_tup_ok {pen L : Addr} {σ : L2.St} {H0 : Hp} {n m : Nat} {te : TE} (h : Ev pen L σ H0 (TupOk n m) te) (hm : m ≤ n) : Ev pen L σ H0 (Ok n) te := fun H Q c p q =>
  h H _ c p fun v H1 ⟨a, xs, e, ea, hl, hx⟩ c1 p1 => q v H1 (by subst e; exact .tup ea hx (by omega)) c1 p1
/-- a thing of a tuple that stays -/
theorem ev_at {K : PySem.W.Frag} {w : World} {pen L : Addr} {σ : L2.St} {H0 : Hp} {xs : List V} {x : V} {i : Nat} {te tf : TE} {P : V → Hp → Prop} (h : Ev pen L σ H0 (TupV xs) te) (hi : EvI σ (i : Int) tf) (hx : xs[i]? = some x) (hp : P x H0) (p0 : PenAt H0 pen L) (hS : Stab pen L P) : Ev pen L σ H0 P (tIxG K w te tf) := fun H Q c p q =>
  g_ixop (h H _ c p fun v H1 ⟨a, e, ea⟩ c1 p1 => hi H1 _ (by
    subst e
    exact g_ixT (.of ea) (atI_nat hx) (q x H1 (hS x H0 H1 hp p0 p1 (c.trans c1)) c1 p1)))
theorem evi_c {σ : L2.St} (i : Int) : EvI σ i (tC (.int i)) := fun H Q q => g_c q
theorem pure_bentpaper {K : PySem.W.Frag} {w : World} : PureOk 3 spBentPaper (t_law_bent_paper K w spDraw spBentRow) 5 := by
  refine ⟨fun vs H Q E ⟨_, _, _, _, _, _, e, _⟩ => by rw [e]; rfl, ?_⟩
  rintro vs H Q E ⟨pen, L, na, v, ns, n, rfl, hP, hna, ena, hne, hnl, hv, hn1, hn5, q⟩
  show t_law_bent_paper K w _ _ _ [some (.ref pen), some v, some (.ref na), none, none] H
  unfold t_law_bent_paper
  have hS := stab_ok (pen := pen) (L := L) (n := n)
  /- which way -/
  have cond : ∀ (R : Bool → Hp → Prop), (∀ b H', (b = false → ∃ (a wa : Addr) (vk : V) (ws : List V), v = .ref a ∧ H a = some (.tup [vk, .ref wa]) ∧ H wa = some (.tup ws)) → Chg pen H H' → PenAt H' pen L → R b H') →
      (tOr (tNot (tTru K (tCB (rIsiG K) (tCons (tVar 1) (tCons (tC (.ty "tuple")) tNil))))) (tOr (tTest (tOp (rNeG K) (tCB (rLenG K) (tCons (tVar 1) tNil)) (tC (.int 2)))) (tOr (tNot (tTru K (tCB (rIsiG K) (tCons (tIxG K w (tVar 1) (tC (.int 1))) (tCons (tC (.ty "tuple")) tNil))))) (tTest (tOp (rEqG K) (tCall spDraw [] E0 (tCons (tVar 0) (tCons (tC (.int 9)) tNil))) (tC (.int 0))))))) [some (.ref pen), some v, some (.ref na), none, none] H R := by
    intro R hR
    obtain ⟨d, jv, fv⟩ := id hv
    walk_at "gg"
    refine g_isi jv.ty (kit_tuple jv) ?_
    walk_at "gg"
    cases ht : isTupD d with
    | false =>
      walk_at "gg"
      exact hR true H (fun h => by cases h) .refl hP
    | true =>
    cases jv with
    | non => cases ht
    | bl b => cases ht
    | int i => cases ht
    | str x => cases ht
    | lst e => cases ht
    | @tup a us ds ea tus =>
    walk_at "gg"
    by_cases h2 : us.length = 2
    rotate_left
    · rw [show (!decide ((us.length : Int) = 2)) = true from by simp; omega]
      walk_at "gg"
      exact hR true H (fun h => by cases h) .refl hP
    rw [show (!decide ((us.length : Int) = 2)) = false from by simp [h2]]
    obtain ⟨vk, vw, rfl⟩ := len_two h2
    cases tus with
    | @cons _ _ kd _ tk tus =>
    cases tus with
    | @cons _ _ wd _ tw tus =>
    cases tus
    walk_at "gg"
    refine g_isi tw.ty (kit_tuple tw) ?_
    walk_at "gg"
    cases hwt : isTupD wd with
    | false =>
      walk_at "gg"
      exact hR true H (fun h => by cases h) .refl hP
    | true =>
    cases tw with
    | non => cases hwt
    | bl b => cases hwt
    | int i => cases hwt
    | str x => cases hwt
    | lst e => cases hwt
    | @tup wa ws wds ew tws =>
    walk_at "gg"
    refine g_draw hP (by decide) (by decide) fun k H1 k0 k1 hP1 c1 => ?_
    walk_at "gg"
    exact hR _ H1 (fun _ => ⟨a, wa, vk, ws, rfl, ea, ew⟩) c1 hP1
  refine g_seq (g_ifs (cond _ fun b H1 hb c1 hP1 => ?_))
  have hv1 : Ok n v H1 := hv.to (hP.tj hP1 c1)
  have ena1 := c1 _ _ hna ena
  cases b with
  | true =>
    refine g_T rfl ?_
    have turned : Ev pen L [some (.ref pen), some v, some (.ref na), none, none] H1 (Ok (n + 1)) (tIf (tTru K (tCB (rIsiG K) (tCons (tVar 1) (tCons (tC (.ty "tuple")) tNil)))) (tCB (rListG K) (tCons (tVar 1) tNil)) (tLstN (tCons (tVar 1) tNil))) := by
      intro H2 Q2 c p q2
      have hv2 := hv1.to (hP1.tj p c)
      obtain ⟨d, jv, fv⟩ := id hv2
      refine g_ifx (g_tru (g_cb (g_cons (g_var rfl (g_cons (g_c (g_nil ?_)))))))
      refine g_isi jv.ty (kit_tuple jv) (g_trubl ?_)
      cases ht : isTupD d with
      | false =>
        refine g_F rfl ?_
        exact ev_lst0 (m := 1) (P := Ok n) (evs_cons stab_ok (ev_var rfl hv2 p stab_ok) evs_nil) (by omega) H2 _ .refl p q2
      | true =>
      cases jv with
      | non => cases ht
      | bl b => cases ht
      | int i => cases ht
      | str x => cases ht
      | lst e => cases ht
      | @tup a us ds ea tus =>
      refine g_T rfl ?_
      exact ev_list (ev_var rfl ⟨a, rfl, ea⟩ p stab_tup) H2 _ .refl p q2
    walk_at "g1"
    refine g_asg (turned H1 _ .refl hP1 fun v3 H2 hv3 c2 hP2 => ?_)
    walk_at "g1"
    walk_at "g1"
    have hv2 := hv1.to (hP1.tj hP2 c2)
    have vr : Ev pen L [some (.ref pen), some v, some (.ref na), some v3, none] H2 (Ok n) (tVar 1) := ev_var rfl hv2 hP2 stab_ok
    have e0 : Ev pen L [some (.ref pen), some v, some (.ref na), some v3, none] H2 (Ok (n + 1)) (tTupN tNil) := ev_ok (xs := []) ev_tup0 hP2 (by simp) (by simp)
    refine ev_pick (n := n + 1) (m := 7) (ev_some ?_ (by omega)) rfl rfl (by omega) (by omega) H2 _ .refl hP2 fun u H3 hu c3 hP3 => q u H3 hu (c1.trans (c2.trans c3)) hP3
    refine evs_cons stab_ok (ev_var rfl hv3 hP2 stab_ok) (evs_cons stab_ok e0 (evs_cons stab_ok (ev_c fun _ => .non) (evs_cons stab_ok (ev_up (ev_sing vr (by omega)) (Nat.le_succ n)) ?_)))
    exact evs_cons stab_ok (ev_lst0 (m := 1) (P := Ok n) (evs_cons stab_ok vr evs_nil) (by omega)) (evs_cons stab_ok (ev_pair e0 e0 (by omega)) (evs_cons stab_ok (ev_c fun _ => .int 7) evs_nil))
  | false =>
    refine g_F rfl ?_
    obtain ⟨a, wa, vk, ws, rfl, ea, ew⟩ := hb rfl
    obtain ⟨d, jv, fv⟩ := id hv
    cases jv with
    | lst e => rw [ea] at e; cases e
    | @tup _ us ds ea' tus =>
    rw [ea] at ea'
    cases ea'
    obtain ⟨hdl, hFd⟩ := fv.out
    cases tus with
    | @cons _ _ kd _ tk tus =>
    cases tus with
    | @cons _ _ wd _ tw tus =>
    cases tus
    have okk : Ok n vk H := ⟨kd, tk, hFd kd (by simp)⟩
    have okw : Ok n (.ref wa) H := ⟨wd, tw, hFd wd (by simp)⟩
    have wso : ws.length ≤ n ∧ ∀ x ∈ ws, Ok n x H := by
      have hFw := hFd wd (by simp)
      cases tw with
      | lst e => rw [ew] at e; cases e
      | @tup _ ws' wds ew' tws =>
      rw [ew] at ew'
      cases ew'
      obtain ⟨hwl, hFw⟩ := hFw.out
      refine ⟨by rw [tws.length]; exact hwl, fun y hy => ?_⟩
      obtain ⟨i, hi, rfl⟩ := List.getElem_of_mem hy
      obtain ⟨d, hd, t⟩ := tws.at (List.getElem?_eq_getElem hi)
      exact ⟨d, t, hFw d (List.mem_of_getElem? hd)⟩
    have paper : ∀ {σ : L2.St} {H0 : Hp}, Chg pen H H0 → PenAt H0 pen L → σ[1]? = some (some (.ref a)) → Ev pen L σ H0 (TupV [vk, .ref wa]) (tVar 1) := fun c p h => ev_var h ⟨a, rfl, (hP.tj p c).tup _ _ ea⟩ p stab_tup
    have p0 : ∀ {σ : L2.St} {H0 : Hp}, Chg pen H H0 → PenAt H0 pen L → σ[1]? = some (some (.ref a)) → Ev pen L σ H0 (Ok n) (tIxG K w (tVar 1) (tC (.int 0))) := fun c p h => ev_at (i := 0) (paper c p h) (evi_c 0) rfl (okk.to (hP.tj p c)) p stab_ok
    have p1 : ∀ {σ : L2.St} {H0 : Hp}, Chg pen H H0 → PenAt H0 pen L → σ[1]? = some (some (.ref a)) → Ev pen L σ H0 (Ok n) (tIxG K w (tVar 1) (tC (.int 1))) := fun c p h => ev_at (i := 1) (paper c p h) (evi_c 1) rfl (okw.to (hP.tj p c)) p stab_ok
    have p1t : ∀ {σ : L2.St} {H0 : Hp}, Chg pen H H0 → PenAt H0 pen L → σ[1]? = some (some (.ref a)) → Ev pen L σ H0 (TupV ws) (tIxG K w (tVar 1) (tC (.int 1))) := fun c p h => ev_at (i := 1) (paper c p h) (evi_c 1) rfl ⟨wa, rfl, (hP.tj p c).tup _ _ ew⟩ p stab_tup
    walk_at "gg"
    refine g_draw hP1 (by decide) (by decide) fun k H2 k0 k1 hP2 c2 => ?_
    have c02 := c1.trans c2
    walk_at "gg"
    refine g_ite (fun _ => ?_) (fun _ => ?_)
    · refine g_ret ?_
      refine ev_pair (n := n + 1) (ev_bentrow rfl rfl hna (c02 _ _ hna ena) hne hnl (by omega) (by omega) (p0 c02 hP2 rfl)) (ev_up (p1 c02 hP2 rfl) (Nat.le_succ n)) (by omega) H2 _ .refl hP2 fun u H3 hu c3 hP3 => q u H3 hu (c02.trans c3) hP3
    have snd : ∀ {H3 : Hp}, Chg pen H H3 → PenAt H3 pen L → tRet (tTupN (tCons (tIxG K w (tVar 1) (tC (.int 0))) (tCons (tCall spBentRow [] E0 (tCons (tVar 0) (tCons (tIxG K w (tVar 1) (tC (.int 1))) (tCons (tVar 2) tNil)))) tNil))) { nx := fun _ H' => Q .non H', rt := Q } [some (.ref pen), some (.ref a), some (.ref na), none, none] H3 := fun c p =>
      g_ret (ev_pair (n := n + 1) (ev_up (p0 c p rfl) (Nat.le_succ n)) (ev_bentrow rfl rfl hna (c _ _ hna ena) hne hnl (by omega) (by omega) (p1 c p rfl)) (by omega) _ _ .refl p fun u H3 hu c3 hP3 => q u H3 hu (c.trans c3) hP3)
    walk_at "g1"
    walk_at "g1"
    refine g_ifs (g_or (g_test (g_op (p1t c02 hP2 rfl H2 _ .refl hP2 fun v3 H3 ⟨wa', e3, ew3⟩ c3 hP3 => ?_))))
    subst e3
    refine g_tup (g_nil (g_len (by decide) (New.mk fun x H4 nx e4 s4 => ?_)))
    have c04 := (c02.trans c3).trans (.same s4)
    have hP4 := hP3.same s4
    refine g_eqT (s4 _ _ ew3) e4 (g_bl ?_)
    cases hwe : ws.isEmpty with
    | true =>
      refine g_T rfl (g_T rfl ?_)
      exact snd c04 hP4
    | false =>
    have hwpos : 0 < ws.length := by
      cases ws with
      | nil => cases hwe
      | cons x l => simp
    refine g_F rfl ?_
    walk_at "gg"
    refine g_draw hP4 (by decide) (by decide) fun k H5 k0 k1 hP5 c5 => ?_
    have c05 := c04.trans c5
    walk_at "gg"
    refine g_ite (fun _ => snd c05 hP5) (fun _ => ?_)
    have ea5 := (hP.tj hP5 c05).tup _ _ ea
    have ew5 := (hP.tj hP5 c05).tup _ _ ew
    walk_at "gg"
    refine g_draw hP5 (by omega) (Nat.lt_of_le_of_lt (by have := wso.1; omega : _ ≤ 1000) (by decide)) fun k H6 k0' k1' hP6 c6 => ?_
    obtain ⟨j, rfl⟩ := Int.eq_ofNat_of_zero_le k0'
    have hj : j < ws.length := by omega
    have c06 := c05.trans c6
    have hw6 : ∀ x ∈ ws, Ok n x H6 := fun x hx => (wso.2 x hx).to (hP.tj hP6 c06)
    walk_at "g1"
    walk_at "g1"
    have pw := p1t (σ := [some (.ref pen), some (.ref a), some (.ref na), none, some (.int (j : Int))]) c06 hP6 rfl
    have ij : EvI [some (.ref pen), some (.ref a), some (.ref na), none, some (.int (j : Int))] (j : Int) (tVar 4) := evi_var rfl
    have wl := wso.1
    refine ev_pair (n := n + 1) (ev_up (p0 c06 hP6 rfl) (Nat.le_succ n)) (ev_tup_ok (m := j + 1 + (ws.length - (j + 1))) (ev_tadd (ev_tadd (m := j) (k := 1) (ev_tok (ev_upto pw ij) hP6 (fun x hx => (hw6 x (List.mem_of_mem_take hx)).up (Nat.le_succ n)) (by simp; omega)) (ev_tsing (ev_bentrow rfl rfl hna (c06 _ _ hna ena) hne hnl (by omega) (by omega) (ev_at pw ij (List.getElem?_eq_getElem hj) (hw6 _ (List.getElem_mem hj)) hP6 stab_ok))) (by omega))
      (ev_tok (ev_from pw (evi_next ij)) hP6 (fun x hx => (hw6 x (List.mem_of_mem_drop hx)).up (Nat.le_succ n)) (by simp)) (by omega)) (by omega)) (by omega) H6 _ .refl hP6 fun u H7 hu c7 hP7 => q u H7 hu (c06.trans c7) hP7

/-! ### cells drawn -/
def CellV (ns : List Int) (v : V) (H : Hp) : Prop := ∃ named, CellAt H v named ∧ named.length ≤ 4 ∧ ∀ m ∈ named, m ∈ ns
def SomeC (pen : Addr) (ns : List Int) (m : Nat) (v : V) (H : Hp) : Prop := ∃ l vs, v = .ref l ∧ l ≠ pen ∧ H l = some (.lst vs) ∧ vs.length = m ∧ ∀ x ∈ vs, CellV ns x H
section
variable {K : PySem.W.Frag} {w : World} {pen L : Addr} {σ : L2.St} {H0 H H' : Hp} {n m k : Nat} {te tf : TE} {ta : TA} {ns : List Int}
theorem CellV.to {v : V} (h : CellV ns v H) (t : Tk H H') : CellV ns v H' := by
  obtain ⟨named, h1, h2⟩ := h
  exact ⟨named, h1.same t, h2⟩
theorem stab_cell : Stab pen L (CellV ns) := fun v H H' h p p' c => h.to (p.tk c)
theorem SomeC.st {v : V} (h : SomeC pen ns m v H) (p : PenAt H pen L) (c : Chg pen H H') : SomeC pen ns m v H' := by
  obtain ⟨l, vs, e, hn, el, hl, hv⟩ := h
  exact ⟨l, vs, e, hn, c _ _ hn el, hl, fun x hx => (hv x hx).to (p.tk c)⟩
theorem ec_some (h : Evs pen L σ H0 m (CellV ns) ta) (hm : m ≤ 1000) : Ev pen L σ H0 (SomeC pen ns m) (tLstN ta) := fun H Q c p q =>
  g_lst (h H _ c p fun vs H1 hl hv c1 p1 => g_len (by show _ ≤ 16777216; omega) (New.mk fun b H2 nb e2 s2 => q _ H2 ⟨b, vs, rfl, (p1.ne nb).1.symm, e2, hl, fun x hx => (hv x hx).to (Same.tk s2)⟩ (c1.trans (.same s2)) (p1.same s2)))
theorem ec_more (h : Ev pen L σ H0 (SomeC pen ns m) te) (g : Ev pen L σ H0 (SomeC pen ns k) tf) (hm : m + k ≤ 1000) : Ev pen L σ H0 (SomeC pen ns (m + k)) (tOp (rAddG K) te tf) := fun H Q c p q =>
  g_op (h H _ c p fun v H1 hv c1 p1 => g H1 _ (c.trans c1) p1 fun u H2 hu c2 p2 => by
    obtain ⟨l, vs, rfl, hn, el, hl, hvs⟩ := hv.st p1 c2
    obtain ⟨b, us, rfl, hb, eb, hlb, hus⟩ := hu
    refine g_addL el eb (by show _ ≤ 16777216; omega) (New.mk fun x H3 nx e3 s3 => q _ H3 ⟨x, vs ++ us, rfl, (p2.ne nx).1.symm, e3, by rw [List.length_append, hl, hlb], fun y hy => ?_⟩ (c1.trans (c2.trans (.same s3))) (p2.same s3))
    rcases List.mem_append.mp hy with z | z
    · exact (hvs y z).to (Same.tk s3)
    · exact (hus y z).to (Same.tk s3))
theorem ec_pick {i : Int} (h : Ev pen L σ H0 (SomeC pen ns m) te) (h0 : σ[0]? = some (some (.ref pen))) (hi : i = (m : Int)) (hm : 1 ≤ m) (hm2 : m ≤ 1000) : Ev pen L σ H0 (CellV ns) (tIxG K w te (tCall spDraw [] E0 (tCons (tVar 0) (tCons (tC (.int i)) tNil)))) := fun H Q c p q =>
  g_ixop (h H _ c p fun v H1 hv c1 p1 => g_call (g_cons (g_var h0 (g_cons (g_c (g_nil (g_draw p1 (by omega) (by rw [hi]; exact Nat.lt_of_le_of_lt (by omega : _ ≤ 1000) (by decide)) fun y H2 y0 y1 p2 c2 => by
    obtain ⟨l, vs, rfl, hn, el, hl, hvs⟩ := hv.st p1 c2
    obtain ⟨x, hx, hmx, _⟩ := atI_in (xs := vs) y0 (by rw [hl]; omega)
    exact g_ixL (.of el) hx (q x H2 (hvs x hmx) (c1.trans c2) p2))))))))
/-- a number of a list that stays -/
theorem evi_ix {l : Addr} {xs : List Int} {j : Nat} {i x : Int} (hl : σ[j]? = some (some (.ref l))) (h0 : 0 ≤ i) (hx : xs[i.toNat]? = some x) {te : TE} (hi : EvI σ i te) (H : Hp) (Q : VK) (el : H l = some (.lst (xs.map V.int))) (q : Q (.int x) H) : tIxG K w (tVar j) te σ H Q :=
  g_ixop (g_var hl (hi H _ (g_ixL (.of el) (v := .int x) (atI_of h0 (by rw [List.getElem?_map, hx]; rfl)) q)))
/-- a cell by its word and its things -/
theorem ec_word {x : Str} {is : List Int} {ta : TA} (h : ∀ H (Q : List V → Hp → Prop), Chg pen H0 H → PenAt H pen L → (∀ H', Chg pen H H' → PenAt H' pen L → Q (is.map V.int) H') → ta σ H Q)
    (hk : (x ∈ [("number" : Str), "call", "bare"]) ∨ (is ≠ [] ∧ is.length ≤ 4 ∧ (∀ m ∈ is, m ∈ ns) ∧ x ∉ [("number" : Str), "call", "bare"] ∧ x ≠ "function")) (hl : is.length ≤ 10) : Ev pen L σ H0 (CellV ns) (tTupN (tCons (tC (.str x)) ta)) := fun H Q c p q =>
  g_tup (g_cons (g_c (h H _ c p fun H1 c1 p1 => g_len (by show _ ≤ 16777216; rw [List.length_cons, List.length_map]; omega) (New.mk fun a H2 _ e s => q _ H2 (by
    rcases hk with hk | ⟨h1, h2, h3, h4, h5⟩
    · exact ⟨[], ⟨a, _, rfl, e, .inl ⟨x, _, rfl, hk, rfl⟩⟩, by simp, by simp⟩
    · exact ⟨is, ⟨a, _, rfl, e, .inr (.inr ⟨x, rfl, h1, h4, h5⟩)⟩, h2, h3⟩) (c1.trans (.same s)) (p1.same s)))))
end
theorem put_cells {H : Hp} {n : Int} {v : V} {named : List Int} : ∀ {kvs : List (Key × V)} {cs : List (Int × List Int)}, Paired (CellIn H) kvs cs → (nums cs).Nodup → CellAt H v named → named.length ≤ 4 →
    ∃ cs', Paired (CellIn H) (putK kvs (.inl n) v) cs' ∧ (nums cs').Nodup ∧ (∀ k, k ∈ nums cs' ↔ k ∈ nums cs ∨ k = n) ∧ ∀ c ∈ cs', c ∈ cs ∨ c = (n, named) := by
  intro kvs cs hp hnd hv hl
  by_cases hn : n ∈ nums cs
  · refine ⟨cs.map fun c => if c.1 = n then (n, named) else c, ?_, ?_, fun k => ?_, fun c hc => ?_⟩
    · have e : putK kvs (.inl n) v = kvs.map fun kv => if kv.1 = .inl n then (kv.1, v) else kv := by
        unfold putK
        rw [valV_any, cell_has hp, decide_eq_true hn]
        rfl
      rw [e]
      clear e hn hnd
      induction hp with
      | nil => exact .nil
      | @cons kv c kvs cs h _ ih =>
        refine .cons ?_ ih
        show CellIn H (if kv.1 = .inl n then (kv.1, v) else kv) (if c.1 = n then (n, named) else c)
        by_cases e : c.1 = n
        · rw [if_pos e, if_pos (by rw [h.1, e])]
          exact ⟨by rw [h.1, e], hv, hl⟩
        · rw [if_neg e, if_neg (by rw [h.1]; exact fun z => e (Sum.inl.inj z))]
          exact h
    · have : nums (cs.map fun c => if c.1 = n then (n, named) else c) = nums cs := by
        unfold nums
        rw [List.map_map]
        refine List.map_congr_left fun c _ => ?_
        show (if c.1 = n then (n, named) else c).1 = c.1
        split
        · next h => exact h.symm
        · rfl
      rw [this]
      exact hnd
    · have : nums (cs.map fun c => if c.1 = n then (n, named) else c) = nums cs := by
        unfold nums
        rw [List.map_map]
        refine List.map_congr_left fun c _ => ?_
        show (if c.1 = n then (n, named) else c).1 = c.1
        split
        · next h => exact h.symm
        · rfl
      rw [this]
      exact ⟨.inl, fun h => h.elim id fun e => e ▸ hn⟩
    · obtain ⟨c', hc', rfl⟩ := List.mem_map.mp hc
      by_cases e : c'.1 = n
      · rw [if_pos e]; exact .inr rfl
      · rw [if_neg e]; exact .inl hc'
  · have e : valV kvs (.inl n) = none := by
      have := cell_has (n := n) hp
      rw [decide_eq_false hn] at this
      cases e : valV kvs (.inl n) with
      | none => rfl
      | some v => rw [e] at this; cases this
    refine ⟨cs ++ [(n, named)], by rw [putK_new v e]; exact hp.snoc ⟨rfl, hv, hl⟩, ?_, fun k => ?_, fun c hc => ?_⟩
    · unfold nums at hnd hn ⊢
      rw [List.map_append]
      exact nodup_snoc hnd hn
    · unfold nums
      rw [List.map_append, List.mem_append]
      simp
    · rcases List.mem_append.mp hc with z | z
      · exact .inl z
      · rw [List.mem_singleton] at z; exact .inr z

/-! ### cells drawn: the whole -/
section
variable {K : PySem.W.Frag} {w : World} {pen L D : Addr} {σ : L2.St} {H0 H H' : Hp} {n m k : Nat} {te tf : TE} {ta : TA} {ns : List Int} {R : Addr → Hp → Prop}
theorem ec_free {x : Str} (h : ∀ H (Q : List V → Hp → Prop), Chg pen H0 H → PenAt H pen L → (∀ vs H', vs.length ≤ 10 → Chg pen H H' → PenAt H' pen L → Q vs H') → ta σ H Q) (hk : x ∈ [("number" : Str), "call", "bare"]) : Ev pen L σ H0 (CellV ns) (tTupN (tCons (tC (.str x)) ta)) := fun H Q c p q =>
  g_tup (g_cons (g_c (h H _ c p fun vs H1 hl c1 p1 => g_len (by show _ ≤ 16777216; rw [List.length_cons]; omega) (New.mk fun a H2 _ e s => q _ H2 ⟨[], ⟨a, _, rfl, e, .inl ⟨x, vs, rfl, hk, rfl⟩⟩, by simp, by simp⟩ (c1.trans (.same s)) (p1.same s)))))
theorem ec_tup {x : Str} {is : List Int} (h : Ev pen L σ H0 (TupV (.str x :: is.map V.int)) te) (h1 : is ≠ []) (h2 : is.length ≤ 4) (h3 : ∀ m ∈ is, m ∈ ns) (h4 : x ∉ [("number" : Str), "call", "bare"]) (h5 : x ≠ "function") : Ev pen L σ H0 (CellV ns) te := fun H Q c p q =>
  h H _ c p fun v H1 ⟨a, e, ea⟩ c1 p1 => q v H1 ⟨is, ⟨a, _, e, ea, .inr (.inr ⟨x, rfl, h1, h4, h5⟩)⟩, h2, h3⟩ c1 p1
theorem ev_tupL {l : Addr} {xs : List V} {j : Nat} (hl : σ[j]? = some (some (.ref l))) (el : H0 l = some (.lst xs)) (hn : l ≠ pen) : Ev pen L σ H0 (TupV xs) (tCB (rTupleG K) (tCons (tVar j) tNil)) := fun H Q c p q =>
  g_cb (g_cons (g_var hl (g_nil (g_tupleL (.of (c _ _ hn el)) (New.mk fun a H1 _ e s => q _ H1 ⟨a, rfl, e⟩ (.same s) (p.same s))))))
theorem cutV_uptoI (ss : List Int) (i : Int) (h0 : 0 ≤ i) : ∃ ts : List Int, cutV (ss.map V.int) none (some i) = ts.map V.int ∧ ts.length ≤ ss.length ∧ ∀ t ∈ ts, t ∈ ss := by
  obtain ⟨j, rfl⟩ := Int.eq_ofNat_of_zero_le h0
  refine ⟨ss.take j, ?_, by rw [List.length_take]; omega, fun t ht => List.mem_of_mem_take ht⟩
  rw [List.map_take]
  exact cutV_upto _ j
theorem ec_fun {l : Addr} {ss : List Int} (h0 : σ[0]? = some (some (.ref pen))) (hl : σ[7]? = some (some (.ref l))) (el : H0 l = some (.lst (ss.map V.int))) (hn : l ≠ pen) (hs : ss.length ≤ 4) (hm : ∀ s ∈ ss, s ∈ ns) :
    Ev pen L σ H0 (CellV ns) (tTupN (tCons (tC (.str "function")) (tCons (tC (.str "f")) (tCons (tCB (rTupleG K) (tCons (tSl (rSlG K) (tVar 7) tNoPart (tPart (tCall spDraw [] E0 (tCons (tVar 0) (tCons (tC (.int 4)) tNil))))) tNil)) tNil)))) := fun H Q c p q =>
  g_tup (g_cons (g_c (g_cons (g_c (g_cons (g_cb (g_cons (g_sl (g_var hl (g_nopart (g_part (g_call (g_cons (g_var h0 (g_cons (g_c (g_nil (g_draw p (by decide) (by decide) fun i H1 i0 i1 p1 c1 => g_ispart (by
    obtain ⟨ts, e1, e2, e3⟩ := cutV_uptoI ss i i0
    refine g_slL (.of (c1 _ _ hn (c _ _ hn el))) (New.mk fun b H2 nb eb sb => ?_)
    rw [e1] at eb
    refine g_nil (g_tupleL (.of eb) (New.mk fun t H3 nt et st => ?_))
    refine g_nil (g_len (by show 3 ≤ 16777216; omega) (New.mk fun a H4 na ea sa => ?_))
    exact q _ H4 ⟨ts, ⟨a, _, rfl, ea, .inr (.inl ⟨_, t, rfl, sa _ _ et⟩)⟩, by omega, fun m h => hm m (e3 m h)⟩ (c1.trans (.same (sb.trans (st.trans sa)))) (p1.same (sb.trans (st.trans sa))))))))))))))))))))))
theorem lc_numbers {many : Int} (h0 : ∀ v, ((wipe σ [8]).set 8 (some v))[0]? = some (some (.ref pen))) (h1 : ∀ v, ((wipe σ [8]).set 8 (some v))[1]? = some (some (.int many))) (h4 : ∀ v, ((wipe σ [8]).set 8 (some v))[4]? = some (some (.ref D))) (hw : ∀ v, wipe ((wipe σ [8]).set 8 (some v)) [8] = wipe σ [8])
    (hm : many = (ns.length : Int)) (hm1 : 1 ≤ ns.length) (hm2 : ns.length ≤ 100) (nD : D ≠ pen) (eD : H0 D = some (.lst (ns.map V.int))) (hP0 : PenAt H0 pen L) (hn : n ≤ 100)
    (q : ∀ d (ss : List Int) H', ss.length = n → (∀ s ∈ ss, s ∈ ns) → d ≠ pen → H' d = some (.lst (ss.map V.int)) → PenAt H' pen L → Chg pen H0 H' → R d H') :
    LcR (Itr 0 n) (gName 8) tYes (tIxG K w (tVar 4) (tCall spDraw [] E0 (tCons (tVar 0) (tCons (tVar 1) tNil)))) [8] σ H0 R := by
  intro d hd
  have hnd := hP0.ne hd
  refine lc_any n (fun j acc H' => ∃ ss : List Int, acc = ss.map V.int ∧ ss.length = j ∧ (∀ s ∈ ss, s ∈ ns) ∧ PenAt H' pen L ∧ Chg pen H0 H') hd (fun H' _ s => ⟨[], rfl, rfl, by simp, hP0.same s, .same s⟩) (fun i acc H' hi _ => hi) (fun acc H' _ => Nat.le_refl _) ?_ ?_
  · rintro j x acc H7 _ hj hl ⟨ss, rfl, hsl, hsm, hP7, c7⟩ hd7 ⟨rfl, rfl⟩
    refine g_name rfl ⟨hw _, g_yes (g_T rfl ?_)⟩
    refine g_ixop (g_var (h4 _) (g_call (g_cons (g_var (h0 _) (g_cons (g_var (h1 _) (g_nil (g_draw hP7 (by omega) (by rw [hm]; exact Nat.lt_of_le_of_lt (by omega : _ ≤ 1000) (by decide)) fun y H8 y0 y1 hP8 c8 => ?_))))))))
    obtain ⟨v, hv, hvm, _⟩ := atI_in (xs := ns.map V.int) y0 (by rw [List.length_map]; omega)
    obtain ⟨s, hs, rfl⟩ := List.mem_map.mp hvm
    refine g_ixL (.of (c8 _ _ nD (c7 _ _ nD eD))) hv ?_
    refine lc_step (c8 _ _ hnd.1.symm hd7) hl (by show _ < 16777216; omega) fun H9 e9 c9 => ?_
    exact ⟨ss ++ [s], by simp, by simp [hsl], fun t ht => (List.mem_append.mp ht).elim (hsm t) (fun z => by rw [List.mem_singleton] at z; rw [z]; exact hs), hP8.chg c9 hnd.1 hnd.2, (c7.trans c8).fresh hd c9⟩
  · rintro acc H7 hd7 ⟨ss, rfl, hsl, hsm, hP7, c7⟩
    exact q d ss H7 hsl hsm hnd.1.symm hd7 hP7 c7
end
def spCells : Sp := fun vs H Q _ => ∃ (pen L : Addr), vs = [.ref pen] ∧ PenAt H pen L ∧ ∀ (p ca ra : Addr) (cs : List (Int × List Int)) (roots : List Int) (H' : Hp), H' p = some (.tup [.ref ca, .ref ra]) → CellsAt H' ca cs → cs ≠ [] → ra ≠ pen → H' ra = some (.lst (roots.map V.int)) → (∀ r ∈ roots, r ∈ nums cs) → roots.length ≤ 14 →
  PenAt H' pen L → Chg pen H H' → Q (.ref p) H'
/-- the dict while it is filled -/
def Fill (pen L D ca : Addr) (ns : List Int) (H0 H : Hp) (cs : List (Int × List Int)) : Prop := (∃ kvs, H ca = some (.dK kvs) ∧ Paired (CellIn H) kvs cs) ∧ (nums cs).Nodup ∧ (∀ k ∈ nums cs, k ∈ ns) ∧ (∀ c ∈ cs, ∀ m ∈ c.2, m ∈ ns) ∧ H D = some (.lst (ns.map V.int)) ∧ PenAt H pen L ∧ Chg pen H0 H
section
variable {K : PySem.W.Frag} {w : World} {pen L D ca : Addr} {σ : L2.St} {H0 H H' : Hp} {n : Int} {cs : List (Int × List Int)} {ns : List Int}
theorem Fill.draw (h : Fill pen L D ca ns H0 H cs) (hD : D ≠ pen) (hc : ca ≠ pen) (c : Chg pen H H') (p : PenAt H' pen L) : Fill pen L D ca ns H0 H' cs := by
  obtain ⟨⟨kvs, h1, h2⟩, h3, h4, h5, h6, h7, h8⟩ := h
  exact ⟨⟨kvs, c _ _ hc h1, prd_imp (fun _ _ x => x.to (h7.tk c)) h2⟩, h3, h4, h5, c _ _ hD h6, p, h8.trans c⟩
theorem Fill.len (h : Fill pen L D ca ns H0 H cs) : cs.length ≤ ns.length := by
  obtain ⟨_, h3, h4, _⟩ := h
  have := nodup_leS _ _ h3 h4
  unfold nums at this
  rwa [List.length_map] at this
theorem Fill.put (h : Fill pen L D ca ns H0 H cs) (hfr : H0 ca = none) (hcL : ca ≠ L) (hcp : ca ≠ pen) {v : V} {named : List Int} {kvs : List (Key × V)} (ek : H ca = some (.dK kvs)) (hn : n ∈ ns) (hv : CellAt H v named) (hl : named.length ≤ 4) (hm : ∀ m ∈ named, m ∈ ns) (e : H' ca = some (.dK (putK kvs (.inl n) v))) (c : Chg ca H H') :
    ∃ cs', Fill pen L D ca ns H0 H' cs' ∧ ∀ k, k ∈ nums cs' ↔ k ∈ nums cs ∨ k = n := by
  obtain ⟨⟨kvs', h1, h2⟩, h3, h4, h5, h6, h7, h8⟩ := h
  rw [ek] at h1
  cases h1
  obtain ⟨cs', p1, p2, p3, p4⟩ := put_cells (n := n) h2 h3 hv hl
  have tk : Tk H H' := c.tk fun xs z => by rw [ek] at z; cases z
  refine ⟨cs', ⟨⟨_, e, prd_imp (fun _ _ x => x.to tk) p1⟩, p2, fun k hk => ((p3 k).mp hk).elim (h4 k) (fun z => z ▸ hn), fun c' hc' => (p4 c' hc').elim (h5 c') (fun z => by rw [z]; exact hm), c _ _ (by rintro rfl; rw [ek] at h6; cases h6) h6, h7.chg c hcp.symm hcL.symm, h8.fresh hfr c⟩, p3⟩
end

/-! ### cells drawn: the def -/
theorem ta_draw {pen L : Addr} {σ : L2.St} {H0 : Hp} {i : Int} (h0 : σ[0]? = some (some (.ref pen))) (hi : 0 < i) (hib : i ≤ 1000) (H : Hp) (Q : List V → Hp → Prop) (c : Chg pen H0 H) (p : PenAt H pen L) (q : ∀ vs H', vs.length ≤ 10 → Chg pen H H' → PenAt H' pen L → Q vs H') :
    tCons (tCall spDraw [] E0 (tCons (tVar 0) (tCons (tC (.int i)) tNil))) tNil σ H Q :=
  g_cons (g_call (g_cons (g_var h0 (g_cons (g_c (g_nil (g_draw p hi (Nat.lt_of_le_of_lt (by omega : _ ≤ 1000) (by decide)) fun y H1 _ _ p1 c1 => g_nil (q _ H1 (by simp) c1 p1))))))))
theorem pure_cells {K : PySem.W.Frag} {w : World} : PureOk 1 spCells (t_law_cells K w spDraw) 11 := by
  refine ⟨fun vs H Q E ⟨_, _, e, _⟩ => by rw [e]; rfl, ?_⟩
  rintro vs H Q E ⟨pen, L, rfl, hP, q⟩
  show t_law_cells K w _ _ [some (.ref pen), none, none, none, none, none, none, none, none, none, none] H
  unfold t_law_cells
  walk_at "gg"
  refine g_draw hP (by decide) (by decide) fun m0 H1 m00 m01 hP1 c1 => ?_
  walk_at "gg"
  refine g_draw hP1 (by decide) (by decide) fun first H2 f0 f1 hP2 c2 => ?_
  walk_at "gg"
  refine g_draw hP2 (by decide) (by decide) fun by0 H3 b0 b1 hP3 c3 => ?_
  walk_at "gg"
  rename_i pt H4 nt et st
  have hP4 := hP3.same st
  have c04 : Chg pen H H4 := c1.trans (c2.trans (c3.trans (.same st)))
  obtain ⟨mm, rfl⟩ := Int.eq_ofNat_of_zero_le m00
  refine g_isrng (by omega) (by omega) ?_
  rw [show ((1 : Int) + (mm : Nat)).toNat = 1 + mm from by omega]
  intro D hD
  have hnD := hP4.ne hD
  refine lc_any (1 + mm) (fun j acc H' => ∃ ns : List Int, acc = ns.map V.int ∧ ns.length = j ∧ Same H4 H') hD (fun H' _ s => ⟨[], rfl, rfl, s⟩) (fun i acc H' hi _ => hi) (fun acc H' _ => Nat.le_refl _) ?_ ?_
  · rintro j x acc H5 _ hj hl ⟨ns, rfl, hnl, s5⟩ hd5 ⟨rfl, rfl⟩
    walk_at "gg"
    refine ⟨rfl, ?_⟩
    walk_at "gg"
    refine g_mulI (.inl ⟨by omega, by omega⟩) ?_
    walk_at "gg"
    refine lc_step hd5 hl (by show _ < 16777216; omega) fun H6 e6 c6 => ?_
    exact ⟨ns ++ [_], by rw [List.map_append]; rfl, by simp [hnl], Same.chg s5 hD c6⟩
  rintro acc H5 eD ⟨ns, rfl, hnl, s5⟩
  have hP5 := hP4.same s5
  have nD : D ≠ pen := hnD.1.symm
  walk_at "gg"
  rename_i ca H6 nca eca s6
  have hP6 := hP5.same s6
  have hca0 : H ca = none := by
    cases h : H ca with
    | none => rfl
    | some o =>
      have := c04 ca o (fun e => by
        subst e
        have h1 := hP5.ne nca
        exact h1.1 rfl) h
      have h2 := s5 _ _ this
      rw [show H5 ca = none from nca] at h2
      cases h2
  have hcn := hP5.ne nca
  have c06 : Chg pen H H6 := c04.trans (.same (s5.trans s6))
  refine g_isrng (by omega) (by omega) ?_
  rw [show ((1 : Int) + (mm : Nat)).toNat = 1 + mm from by omega]
  have hnlen : ((1 : Int) + (mm : Nat)) = (ns.length : Int) := by omega
  refine for_any (1 + mm) (fun i σ H' => ∃ (x5 x7 x8 x9 : Option V) (cs : List (Int × List Int)), σ = [some (.ref pen), some (.int (1 + (mm : Nat))), some (.int first), some (.int (1 + by0)), some (.ref D), x5, some (.ref ca), x7, x8, x9, none] ∧ Fill pen L D ca ns H H' cs)
    ⟨_, _, _, _, [], rfl, ⟨_, eca, .nil⟩, List.nodup_nil, by simp [nums], by simp, s6 _ _ eD, hP6, c06⟩ (fun i σ H' hi _ => hi) (fun σ H' _ => Nat.le_refl _) ?_ ?_
  · rintro i x σ H7 _ hi ⟨x5, x7, x8, x9, cs, rfl, hf⟩ ⟨rfl, hx⟩
    subst hx
    obtain ⟨_, _, _, _, eD7, hP7, c7⟩ := id hf
    walk_at "gg"
    refine g_isrng (by omega) (by omega) ?_
    rw [show ((3 : Int)).toNat = 3 from rfl]
    refine lc_numbers (n := 3) (fun _ => rfl) (fun _ => rfl) (fun _ => rfl) (fun _ => rfl) hnlen (by omega) (by omega) nD eD7 hP7 (by omega) fun l ss H8 hsl hsm nl el hP8 c8 => ?_
    obtain ⟨s0, s1, s2, rfl⟩ : ∃ a b c, ss = [a, b, c] := by
      match ss, hsl with
      | [a, b, c], _ => exact ⟨a, b, c, rfl⟩
    have m0 := hsm s0 (by simp)
    have m1 := hsm s1 (by simp)
    have m2 := hsm s2 (by simp)
    have hf8 := hf.draw nD hcn.1.symm c8 hP8
    walk_at "g1"
    walk_at "g1"
    have ix : ∀ {σ : L2.St} {H0 : Hp} (_ : σ[7]? = some (some (.ref l))) (_ : Chg pen H8 H0) {i : Nat} {x : Int} (_ : [s0, s1, s2][i]? = some x) {H' : Hp} {R : VK}, Chg pen H0 H' → R (.int x) H' → tIxG K w (tVar 7) (tC (.int (i : Int))) σ H' R :=
      fun h7 c0 _ _ hx _ _ c r => evi_ix h7 (by omega) (by simpa using hx) (evi_c _) _ _ (c _ _ nl (c0 _ _ nl el)) r
    refine g_asg (ec_some (ns := ns) (m := 5) ?_ (by omega) H8 _ .refl hP8 fun v1 H9 hv1 c9 hP9 => ?_)
    · refine evs_cons stab_cell (ec_free (ta_draw rfl (by omega) (by omega)) (by decide +kernel)) ?_
      refine evs_cons stab_cell (ec_word (is := [s0]) (fun H' Q' c p q' => g_cons (ix rfl .refl (i := 0) rfl c (g_nil (q' H' .refl p)))) (.inr ⟨by simp, by simp, by simpa using m0, by decide +kernel, by decide +kernel⟩) (by simp)) ?_
      refine evs_cons stab_cell (ec_word (is := [s0, s1]) (fun H' Q' c p q' => g_cons (ix rfl .refl (i := 0) rfl c (g_cons (ix rfl .refl (i := 1) rfl c (g_nil (q' H' .refl p)))))) (.inr ⟨by simp, by simp, by simp [m0, m1], by decide +kernel, by decide +kernel⟩) (by simp)) ?_
      refine evs_cons stab_cell (ec_word (is := [s0]) (fun H' Q' c p q' => g_cons (ix rfl .refl (i := 0) rfl c (g_nil (q' H' .refl p)))) (.inr ⟨by simp, by simp, by simpa using m0, by decide +kernel, by decide +kernel⟩) (by simp)) ?_
      exact evs_cons stab_cell (ec_free (fun H' Q' c p q' => g_nil (q' [] H' (by simp) .refl p)) (by decide +kernel)) evs_nil
    walk_at "g1"
    walk_at "g1"
    refine g_asg (ec_more (ns := ns) (m := 5) (k := 3) (ev_var rfl hv1 hP9 fun v H H' h p p' c => h.st p c) (ec_some ?_ (by omega)) (by omega) H9 _ .refl hP9 fun v2 H10 hv2 c10 hP10 => ?_)
    · have c8' : Chg pen H8 H9 := c9
      refine evs_cons stab_cell (ec_tup (x := "when") (is := [s0, s1, s2]) (ev_add (xs := [.str "when"]) (ev_one fun H1 Q1 c1 p1 q1 => g_c q1) (ev_tupL rfl (c9 _ _ nl el) nl) (by simp)) (by simp) (by simp) (by simp [m0, m1, m2]) (by decide +kernel) (by decide +kernel)) ?_
      refine evs_cons stab_cell (ec_word (is := [s0, s1]) (fun H' Q' c p q' => g_cons (ix rfl c8' (i := 0) rfl c (g_cons (ix rfl c8' (i := 1) rfl c (g_nil (q' H' .refl p)))))) (.inr ⟨by simp, by simp, by simp [m0, m1], by decide +kernel, by decide +kernel⟩) (by simp)) ?_
      exact evs_cons stab_cell (ec_fun rfl rfl (c9 _ _ nl el) nl (by simp) (by simp [m0, m1, m2])) evs_nil
    walk_at "g1"
    walk_at "g1"
    refine g_asg (ec_more (ns := ns) (m := 8) (k := 2) (ev_var rfl hv2 hP10 fun v H H' h p p' c => h.st p c) (ec_some ?_ (by omega)) (by omega) H10 _ .refl hP10 fun v3 H11 hv3 c11 hP11 => ?_)
    · refine evs_cons stab_cell (ec_free (fun H' Q' c p q' => g_cons (g_c (g_nil (q' _ H' (by simp) .refl p)))) (by decide +kernel)) ?_
      exact evs_cons stab_cell (ec_word (is := [s1, s2]) (fun H' Q' c p q' => g_cons (ix rfl (c9.trans c10) (i := 1) rfl c (g_cons (ix rfl (c9.trans c10) (i := 2) rfl c (g_nil (q' H' .refl p)))))) (.inr ⟨by simp, by simp, by simp [m1, m2], by decide +kernel, by decide +kernel⟩) (by simp)) evs_nil
    walk_at "g1"
    refine g_asg (ec_pick (ns := ns) (m := 10) (ev_var rfl hv3 hP11 fun v H H' h p p' c => h.st p c) rfl rfl (by omega) (by omega) H11 _ .refl hP11 fun v H12 hv c12 hP12 => ?_)
    have hf12 := hf8.draw nD hcn.1.symm (c9.trans (c10.trans (c11.trans c12))) hP12
    obtain ⟨named, hv1', hv2', hv3'⟩ := hv
    have key : ∀ {R : VK}, (∀ (k : Int) H', k ∈ ns → Chg pen H12 H' → PenAt H' pen L → R (.int k) H') → tIxG K w (tVar 4) (tIf (tTest (tOp (rEqG K) (tVar 5) (tC (.int 0)))) (tCall spDraw [] E0 (tCons (tVar 0) (tCons (tVar 1) tNil))) (tVar 5)) [some (.ref pen), some (.int (1 + (mm : Nat))), some (.int first), some (.int (1 + by0)), some (.ref D), some (.int (0 + (i : Int))), some (.ref ca), some (.ref l), x8, some v3, none] H12 R := by
      intro R hR
      obtain ⟨_, _, _, _, eD12, _, _⟩ := id hf12
      have get : ∀ {y : Int} {H' : Hp}, 0 ≤ y → y < (ns.length : Int) → Chg pen H12 H' → PenAt H' pen L → rIxG K w (.ref D) (.int y) H' R := fun y0 y1 c p => by
        obtain ⟨v, hv, hvm, _⟩ := atI_in (xs := ns.map V.int) y0 (by rw [List.length_map]; omega)
        obtain ⟨s, hs, rfl⟩ := List.mem_map.mp hvm
        exact g_ixL (.of (c _ _ nD eD12)) hv (hR s _ hs c p)
      refine g_ixop (g_var rfl (g_ifx (g_test (g_op (g_var rfl (g_c (g_eqI (g_bl ?_))))))))
      refine g_ite (fun _ => ?_) (fun _ => ?_)
      · refine g_call (g_cons (g_var rfl (g_cons (g_var rfl (g_nil (g_draw hP12 (by omega) (Nat.lt_of_le_of_lt (by omega : _ ≤ 1000) (by decide)) fun y H13 y0 y1 hP13 c13 => ?_))))))
        exact get y0 (by omega) c13 hP13
      · exact g_var rfl (get (by omega) (by omega) .refl hP12)
    refine g_sub (g_var rfl (key fun kk H13 hkk c13 hP13 => ?_))
    have hf13 := hf12.draw nD hcn.1.symm c13 hP13
    obtain ⟨⟨kvs, ek, hp⟩, _⟩ := id hf13
    have hkl := Paired.length hp
    have hcl := hf13.len
    refine g_setK ek (k := .inl kk) rfl (by show _ < 16777216; omega) fun H14 e14 c14 => ?_
    obtain ⟨cs', hf14, _⟩ := hf13.put hca0 hcn.2.symm hcn.1.symm ek hkk (hv1'.same (hP12.tk c13)) hv2' hv3' e14 c14
    exact ⟨_, _, _, _, cs', rfl, hf14⟩
  · rintro σ H7 ⟨x5, x7, x8, x9, cs, rfl, hf⟩
    walk_at "gg"
    refine g_seqL ?_
    obtain ⟨_, _, _, _, eD7, hP7, c7⟩ := id hf
    walk_at "gg"
    refine for_L (xs := ns.map V.int) (fun i σ H' => ∃ (x5 x7 x8 x9 x10 : Option V) (cs : List (Int × List Int)), σ = [some (.ref pen), some (.int (1 + (mm : Nat))), some (.int first), some (.int (1 + by0)), some (.ref D), x5, some (.ref ca), x7, x8, x9, x10] ∧ Fill pen L D ca ns H H' cs ∧ ∀ n ∈ ns.take i, n ∈ nums cs)
      (fun i σ H' ⟨_, _, _, _, _, _, _, h, _⟩ => h.2.2.2.2.1) ⟨_, _, _, _, _, cs, rfl, hf, by simp⟩ ?_ ?_
    · rintro i x σ H8 hx ⟨x5, x7, x8, x9, x10, cs, rfl, hf8, hin⟩
      rw [List.getElem?_map] at hx
      obtain ⟨n, hn, rfl⟩ := Option.map_eq_some_iff.mp hx
      have hnn : n ∈ ns := List.mem_of_getElem? hn
      have htk : ∀ {cs' : List (Int × List Int)}, (∀ k, k ∈ nums cs → k ∈ nums cs') → n ∈ nums cs' → ∀ k ∈ ns.take (i + 1), k ∈ nums cs' := fun h1 h2 k hk => by
        rw [List.take_add_one, hn, List.mem_append] at hk
        rcases hk with z | z
        · exact h1 k (hin k z)
        · simp only [Option.toList_some, List.mem_singleton] at z
          rw [z]; exact h2
      obtain ⟨⟨kvs, ek, hp⟩, _, _, _, _, hP8, _⟩ := id hf8
      refine g_name rfl (g_drop (g_var rfl ⟨ca, rfl, .inl ⟨kvs, .of ek⟩, g_var rfl (g_tup (g_cons (g_c (g_cons (g_var rfl (g_nil (g_len (by show 2 ≤ 16777216; omega) (New.mk fun a H9 na ea s9 => ?_))))))))⟩))
      have hf9 := hf8.draw nD hcn.1.symm (.same s9) (hP8.same s9)
      have hkl := Paired.length hp
      have hcl := hf8.len
      refine ⟨kvs, .inl n, s9 _ _ ek, rfl, by show _ < 16777216; omega, fun v hv => ?_, fun hv => Put.mk fun H10 e10 c10 => ?_⟩
      · have := cell_has (n := n) hp
        rw [hv] at this
        exact ⟨_, _, _, _, _, cs, rfl, hf9, htk (fun _ h => h) (of_decide_eq_true this.symm)⟩
      · obtain ⟨cs', hf10, hm⟩ := hf9.put hca0 hcn.2.symm hcn.1.symm (s9 _ _ ek) hnn (named := []) ⟨a, _, rfl, ea, .inl ⟨"number", _, rfl, by decide +kernel, rfl⟩⟩ (by simp) (by simp) e10 c10
        exact ⟨_, _, _, _, _, cs', rfl, hf10, htk (fun k h => (hm k).mpr (.inl h)) ((hm n).mpr (.inr rfl))⟩
    · rintro σ H8 ⟨x5, x7, x8, x9, x10, cs, rfl, hf8, hin⟩
      rw [List.length_map, List.take_length] at hin
      obtain ⟨_, _, _, _, eD8, hP8, _⟩ := id hf8
      refine g_ret (g_tup (g_cons (g_var rfl (g_cons (g_lc (g_seqL (g_var rfl (g_isLa eD8 ?_))))))))
      intro d hd
      have hnd := hP8.ne hd
      refine lc_any ns.length (fun i acc H' => ∃ rs : List Int, acc = rs.map V.int ∧ rs.length ≤ i ∧ (∀ r ∈ rs, r ∈ ns) ∧ PenAt H' pen L ∧ Chg pen H8 H') hd (fun H' _ s => ⟨[], rfl, by simp, by simp, hP8.same s, .same s⟩)
        (fun i acc H' hi ⟨_, _, _, _, _, c⟩ => ⟨_, _, .of (c _ _ nD eD8), List.getElem?_eq_getElem (by rw [List.length_map]; exact hi)⟩) (fun acc H' ⟨_, _, _, _, _, c⟩ => ⟨_, .of (c _ _ nD eD8), by rw [List.length_map]; exact Nat.le_refl _⟩) ?_ ?_
      · rintro i x acc _ H9 hi hl ⟨rs, rfl, hrl, hrm, hP9, c9⟩ hd9 ⟨rfl, hx⟩
        have hx1 := hx _ (.of (c9 _ _ nD eD8))
        rw [List.getElem?_map] at hx1
        obtain ⟨n, hn, rfl⟩ := Option.map_eq_some_iff.mp hx1
        refine g_name rfl ⟨rfl, ?_⟩
        refine g_test (g_op (g_call (g_cons (g_var rfl (g_cons (g_c (g_nil (g_draw hP9 (by decide) (by decide) fun y H10 y0 y1 hP10 c10 => g_c (g_eqI (g_bl ?_))))))))))
        refine g_ite (fun _ => ?_) (fun _ => ?_)
        · refine g_var rfl ?_
          refine lc_step (c10 _ _ hnd.1.symm hd9) hl (by show _ < 16777216; omega) fun H11 e11 c11 => ?_
          exact ⟨rs ++ [n], by rw [List.map_append]; rfl, by rw [List.length_append, List.length_singleton]; omega, fun t ht => (List.mem_append.mp ht).elim (hrm t) (fun z => by rw [List.mem_singleton] at z; rw [z]; exact List.mem_of_getElem? hn), hP10.chg c11 hnd.1 hnd.2, (c9.trans c10).fresh hd c11⟩
        · exact ⟨_, c10 _ _ hnd.1.symm hd9, by omega, rs, rfl, by omega, hrm, hP10, c9.trans c10⟩
      · rintro acc H9 hd9 ⟨rs, rfl, hrl, hrm, hP9, c9⟩
        have hf9 := hf8.draw nD hcn.1.symm c9 hP9
        refine g_nil (g_len (by show 2 ≤ 16777216; omega) (New.mk fun p H10 np ep s10 => ?_))
        obtain ⟨⟨kvs, ek, hp⟩, h3, h4, h5, _, hP9', c9'⟩ := hf9.draw nD hcn.1.symm (.same s10) (hP9.same s10)
        have hcl := hf9.len
        refine q p ca d cs rs H10 ep ⟨⟨kvs, ek, hp⟩, h3, by omega, fun c hc n hn => hin n (h5 c hc n hn)⟩ ?_ hnd.1.symm (s10 _ _ hd9) (fun r hr => hin r (hrm r hr)) (by omega) hP9' c9'
        rintro rfl
        cases ns with
        | nil => rw [List.length_nil] at hnl; omega
        | cons x l => exact absurd (hin x (by simp)) (by simp [nums])

/-! ### bent sweep papers: the law -/
def spSameB : Sp := fun vs H Q _ => ∃ b : Bool, vs = [.bl b, .bl b] ∧ Q (.bl true) H
theorem pure_sameB {K : PySem.W.Frag} {w : World} : PureOk 2 spSameB (t_law_same K w) 2 := by
  refine ⟨fun vs H Q E ⟨_, e, _⟩ => by rw [e]; rfl, ?_⟩
  rintro vs H Q E ⟨b, rfl, q⟩
  show t_law_same K w _ [some (.bl b), some (.bl b)] H
  unfold t_law_same
  walk_at "gg"
  have hs : (PyData.bool b).shown.length ≤ sizeLine := by cases b <;> decide +kernel
  refine g_repr (.bl b) rfl rfl (by simp [PyData.depth]) hs ?_
  walk_at "gg"
  refine g_repr (.bl b) rfl rfl (by simp [PyData.depth]) hs ?_
  walk_at "gg"
  rw [decide_eq_true rfl]
  exact q
theorem keys_cells {H : Hp} : ∀ {kvs : List (Key × V)} {cs : List (Int × List Int)}, Paired (CellIn H) kvs cs → kvs.map (·.1) = (nums cs).map Sum.inl
  | _, _, .nil => rfl
  | _, _, .cons h r => by
    have := keys_cells r
    unfold nums at this ⊢
    rw [List.map_cons, List.map_cons, List.map_cons, this, h.1]
theorem flat_cells {H : Hp} : ∀ {kvs : List (Key × V)} {cs : List (Int × List Int)}, Paired (CellIn H) kvs cs → ∀ p ∈ kvs, flatR p.2 = true
  | _, _, .nil, p, h => by cases h
  | _, _, .cons h r, p, hp => by
    rcases List.mem_cons.mp hp with rfl | hp
    · obtain ⟨a, xs, e, _⟩ := h.2.1
      rw [e]
      rfl
    · exact flat_cells r p hp
theorem nd_keys {kvs : List (Key × V)} {ks : List Int} (h : kvs.map (·.1) = ks.map Sum.inl) (hn : ks.Nodup) : (kvs.map (·.1)).Nodup := by
  rw [h, List.Nodup, List.pairwise_map]
  exact hn.imp fun h z => h (Sum.inl.inj z)
theorem ev_bentpaper {pen L na : Addr} {σ : L2.St} {H0 : Hp} {ns : List Int} {n : Nat} {te : TE} (h0 : σ[1]? = some (some (.ref pen))) (h2 : σ[5]? = some (some (.ref na))) (hna : na ≠ pen) (ena : H0 na = some (.lst (ns.map V.int))) (hne : ns ≠ []) (hnl : ns.length ≤ 100) (hn1 : 2 ≤ n) (hn5 : n ≤ 400)
    (h : Ev pen L σ H0 (Ok n) te) : Ev pen L σ H0 (Ok (n + 1)) (tCall spBentPaper [] E0 (tCons (tVar 1) (tCons te (tCons (tVar 5) tNil)))) := fun H Q c p q =>
  g_call (g_cons (g_var h0 (g_cons (h H _ c p fun v H1 hv c1 p1 => g_cons (g_var h2 (g_nil ⟨pen, L, na, v, ns, n, rfl, p1, hna, c1 _ _ hna (c _ _ hna ena), hne, hnl, hv, hn1, hn5, fun u H2 hu c2 p2 => q u H2 hu (c1.trans c2) p2⟩))))))
theorem not_sweep {cs : List (Int × List Int)} {roots : List Int} {d : PyData} (h : isTupD d = false) : ¬ SweepP cs roots d := fun ⟨_, _, _, e, _⟩ => by rw [e] at h; cases h
def St62 (a pen L : Addr) (i : Nat) (σ : L2.St) (H : Hp) : Prop := ∃ x2 x3 x4 x5 x6 x7 x8 x9 x10 x11 x12 : Option V, σ = [some (.ref a), some (.ref pen), x2, x3, x4, x5, x6, x7, x8, x9, x10, x11, x12] ∧ PenAt H pen L ∧
  (0 < i → ∃ (ca ra : Addr) (cs : List (Int × List Int)) (roots : List Int), x3 = some (.ref ca) ∧ x4 = some (.ref ra) ∧ CellsAt H ca cs ∧ ra ≠ pen ∧ H ra = some (.lst (roots.map V.int)) ∧ roots.length ≤ 14)
theorem pure_law {K : PySem.W.Frag} {w : World} : PureOk 1 (spLaw K) (t_law K w (spPen K) spCells spReached spWay spBentPaper spSweep spSameB spSweep spDraw) 13 := by
  refine ⟨fun vs H Q E ⟨a, ns, e, _⟩ => by rw [e]; rfl, ?_⟩
  rintro vs H Q E ⟨a, ns, rfl, hS, hl, q⟩
  show t_law K w _ _ _ _ _ _ _ _ _ _ [some (.ref a), none, none, none, none, none, none, none, none, none, none, none, none] H
  unfold t_law
  walk_at "gg"
  refine ⟨a, ns, rfl, hS, hl, fun pen L H1 _ _ hP s1 => ?_⟩
  walk_at "gg"
  refine g_isrng (by decide) (by decide) ?_
  refine for_any 4 (St62 a pen L) ⟨_, _, _, _, _, _, _, _, _, _, _, rfl, hP, fun h => absurd h (by omega)⟩ (fun i σ H' hi _ => hi) (fun σ H' _ => Nat.le_refl _) ?_ ?_
  rotate_left
  · rintro σ H2 ⟨x2, x3, x4, x5, x6, x7, x8, x9, x10, x11, x12, rfl, hP2, h4⟩
    obtain ⟨ca, ra, cs, roots, rfl, rfl, hC, hra, era, hrl⟩ := h4 (by omega)
    walk_at "gg"
    rename_i p3 H3 n3 e3 s3 p4 H4 n4 e4 s4
    refine g_draw ((hP2.same s3).same s4) (by decide) (by decide) fun y H5 y0 y1 hP5 c5 => ?_
    have hnp4 := (hP2.same s3).ne n4
    have c25 : Chg pen H2 H5 := (Chg.same (s3.trans s4)).trans c5
    have hP2' := (hP2.same s3).same s4
    have hC5 : CellsAt H5 ca cs := by
      obtain ⟨_, _, _, hp, _⟩ := hP2
      exact hC.chg c25 hp
    have era5 : H5 ra = some (.lst (roots.map V.int)) := c25 _ _ hra era
    have fin : ∀ {v : V} {d : PyData}, Jq H5 v d → isTupD d = false → spSweep ([.ref ca, .ref ra, v] ++ []) H5 (fun x H6 => rIsG false x (.bl false) H6 fun x H7 => Q x H7) E0 := fun jq hd =>
      ⟨ca, ra, cs, roots, _, _, rfl, hC5, era5, by omega, jq, .oth hd, fun b H6 hb s => .inr ⟨b, false, rfl, rfl, by
        cases b with
        | true => exact absurd (hb.mp rfl) (not_sweep hd)
        | false => exact q H6⟩⟩
    have el5 := c5 _ _ hnp4.1.symm e4
    have ix : ∀ {v : V}, ([.ref ra, .ref p3, .non, .str "paper", .int 0] : List V)[y.toNat]? = some v → ∀ {R : VK}, R v H5 → rIxG K w (.ref p4) (.int y) H5 R := fun e R r => g_ixL (.of el5) (atI_of y0 e) r
    have hy : y = 0 ∨ y = 1 ∨ y = 2 ∨ y = 3 ∨ y = 4 := by omega
    rcases hy with rfl | rfl | rfl | rfl | rfl
    · refine ix rfl ?_
      walk_at "gg"
      exact fin (d := .list []) (.lst era5) rfl
    · refine ix rfl ?_
      walk_at "gg"
      exact fin (d := .list []) (.lst (c5 _ _ (hP2.ne n3).1.symm (s4 _ _ e3))) rfl
    · refine ix rfl ?_
      walk_at "gg"
      exact fin .non rfl
    · refine ix rfl ?_
      walk_at "gg"
      exact fin (.str _) rfl
    · refine ix rfl ?_
      walk_at "gg"
      exact fin (.int _) rfl
  rintro i x σ H2 _ hi ⟨x2, x3, x4, x5, x6, x7, x8, x9, x10, x11, x12, rfl, hP2, _⟩ ⟨rfl, hx⟩
  walk_at "gg"
  refine ⟨pen, L, rfl, hP2, fun p ca ra cs roots H3 ep hC hcne hra era hrm hrl hP3 c3 => ?_⟩
  refine g_un2 ep ?_
  walk_at "gg"
  obtain ⟨kvs, ek, hp⟩ := id hC.ex
  have hc14 := hC.few
  have hnl : (nums cs).length = cs.length := by unfold nums; rw [List.length_map]
  refine g_sortD (nums cs) ek (keys_cells hp) (by omega) fun ns' na H4 yp ys nna ena s4 => ?_
  have hP4 := hP3.same s4
  have hnna := hP3.ne nna
  walk_at "gg"
  have hC4 := hC.same s4
  refine ⟨ca, ra, cs, roots, rfl, hC4, s4 _ _ era, hrm, by omega, fun d kvs2 ks H5 ed hks hknd hkr s5 => ?_⟩
  have hk14 : ks.length ≤ 14 := by
    have := nodup_leS ks (nums cs) hknd fun k hk => (hkr k hk).num hC hrm
    omega
  walk_at "gg"
  refine g_sortD ks ed hks (by omega) fun zs l6 H6 zp zs' n6 e6 s6 => ?_
  walk_at "gg"
  rename_i kt H7 n7 e7 s7
  have s47 := s5.trans (s6.trans s7)
  have hzl : zs.length ≤ 14 := by rw [zp.length_eq]; exact hk14
  refine g_seqT ?_
  walk_at "gg"
  have hC7 := hC4.same s47
  have era7 := s47 _ _ (s4 _ _ era)
  refine lc_mapT e7 (by rw [List.length_map]; omega) (fun i y H' => ∃ t ms, y = .ref t ∧ H' t = some (.tup (List.map V.int ms)) ∧ ms.length ≤ 15) (fun i y H1 H2 k ⟨t, ms, a, b, c⟩ => ⟨t, ms, a, k _ _ b, c⟩) ?_ ?_
  · intro i x H8 Nx hx s8 hN
    rw [List.getElem?_map] at hx
    obtain ⟨n, hn, rfl⟩ := Option.map_eq_some_iff.mp hx
    walk_at "gg"
    refine ⟨rfl, ?_⟩
    walk_at "gg"
    exact ⟨ca, ra, cs, roots, n, rfl, hC7.same s8, s8 _ _ era7, hrm, by omega, hkr n (zp.mem_iff.mp (List.mem_of_getElem? hn)), fun t ms H9 et hml s9 => hN _ _ s9 ⟨t, ms, rfl, et, hml⟩⟩
  intro D wys H8 nD eD hwl hwF s8
  have ek8 : H8 ca = some (.dK kvs) := s8 _ _ (s47 _ _ (s4 _ _ ek))
  have era8 := s8 _ _ era7
  have ekt8 := s8 _ _ e7
  walk_at "gg"
  rename_i wt H9 n9 e9 s9 pt H10 n10 e10 s10 cc H11 n11 e11 s11 rc H12 n12 e12 s12 hd H13 n13 e13 s13
  have s813 : Same H8 H13 := s9.trans (s10.trans (s11.trans (s12.trans s13)))
  have s413 : Same H4 H13 := s47.trans (s8.trans s813)
  have hP13 := hP4.same s413
  have hC13 : CellsAt H13 ca cs := hC4.same s413
  have hCc : CellsAt H13 cc cs := ⟨⟨kvs, s13 _ _ (s12 _ _ e11), prd_imp (fun _ _ h => h.to (Same.tk (s4.trans s413))) hp⟩, hC.nd, hC.few, hC.shut⟩
  have erc : H13 rc = some (.lst (roots.map V.int)) := s13 _ _ e12
  have hok : Ok 15 (.ref pt) H13 := by
    have s1013 : Same H10 H13 := s11.trans (s12.trans s13)
    refine .tup (s1013 _ _ e10) (fun y hy => ?_) (by simp)
    simp only [List.mem_cons, List.not_mem_nil, or_false] at hy
    rcases hy with rfl | rfl
    · refine .tup (s813 _ _ ekt8) (fun y hy => ?_) (by rw [List.length_map]; omega)
      obtain ⟨z, _, rfl⟩ := List.mem_map.mp hy
      exact .int z
    · refine .tup ((s10.trans s1013) _ _ e9) (fun y hy => ?_) (by rw [hwl, List.length_map]; omega)
      obtain ⟨j, hj, rfl⟩ := List.getElem_of_mem hy
      obtain ⟨t, ms, e, et, hm⟩ := hwF j _ (List.getElem?_eq_getElem hj)
      rw [e]
      refine .tup (s813 _ _ et) (fun y hy => ?_) (by rw [List.length_map]; exact hm)
      obtain ⟨z, _, rfl⟩ := List.mem_map.mp hy
      exact .int z
  have hns' : ns' ≠ [] := by
    rintro rfl
    have := yp.length_eq
    rw [hnl] at this
    exact hcne (List.eq_nil_of_length_eq_zero this.symm)
  have hnsl : ns'.length ≤ 100 := by rw [yp.length_eq]; omega
  have ena13 := s413 _ _ ena
  have nna' := hnna.1.symm
  refine ⟨pen, L, na, .ref pt, ns', 15, rfl, hP13, nna', ena13, hns', hnsl, hok, by omega, by omega, fun u H14 hu c14 hP14 => ?_⟩
  walk_at "g1"
  walk_at "g1"
  have hok14 := (hok.to (hP13.tj hP14 c14))
  have third : ∀ {σ : L2.St}, σ[1]? = some (some (.ref pen)) → σ[5]? = some (some (.ref na)) → σ[10]? = some (some u) → Ev pen L σ H14 (Ok 17) (tIxG K w (tLstN (tCons (tCall spBentPaper [] E0 (tCons (tVar 1) (tCons (tVar 10) (tCons (tVar 5) tNil)))) (tCons (tVar 10) tNil))) (tCB rIntG (tCons (tNotT K (tCB (rIsiG K) (tCons (tVar 10) (tCons (tC (.ty "tuple")) tNil)))) tNil))) := by
    intro σ h1 h5 h10 H Q c p q
    have vu : Ev pen L σ H14 (Ok 16) (tVar 10) := ev_var h10 hu hP14 stab_ok
    refine g_ixop (ev_some (n := 17) (evs_cons stab_ok (ev_bentpaper h1 h5 nna' (c14 _ _ nna' ena13) hns' hnsl (by omega) (by omega) vu) (evs_cons stab_ok (ev_up vu (by omega)) evs_nil)) (by omega) H _ c p fun v H1 hv c1 p1 => ?_)
    obtain ⟨l, vs, rfl, hn, el, hvl, hvs⟩ := hv
    obtain ⟨d, jq, _⟩ := hu.to (hP14.tj p1 (c.trans c1))
    refine g_cb (g_cons (g_notT (g_cb (g_cons (g_var h10 (g_cons (g_c (g_nil ?_))))))))
    refine g_isi jq.ty (kit_tuple jq) (g_trubl (g_nil (g_intB ?_)))
    obtain ⟨v, hv, hvm, _⟩ := atI_in (xs := vs) (i := if (!isTupD d) = true then 1 else 0) (by split <;> omega) (by split <;> omega)
    exact g_ixL (.of el) hv (q v H1 (hvs v hvm) c1 p1)
  refine g_seqL (ev_some (n := 17) (m := 3) (evs_cons stab_ok (ev_up (ev_var rfl hok14 hP14 stab_ok) (by omega)) (evs_cons stab_ok (ev_up (ev_var rfl hu hP14 stab_ok) (by omega)) (evs_cons stab_ok (third rfl rfl rfl) evs_nil))) (by omega) H14 _ .refl hP14 fun v H15 hv c15 hP15 => ?_)
  obtain ⟨l, vs, rfl, hln, el, hvl, hvs⟩ := hv
  have c1315 := c14.trans c15
  obtain ⟨_, _, _, hpp, _⟩ := id hP13
  have hC15 := hC13.chg c1315 hpp
  have hCc15 := hCc.chg c1315 hpp
  have hrc : rc ≠ pen := ((hP4.same (s47.trans (s8.trans (s9.trans (s10.trans s11))))).ne n12).1.symm
  have tj15 := hP13.tj hP15 c1315
  have erc15 := c1315 _ _ hrc erc
  have era15 := c1315 _ _ hra (s413 _ _ (s4 _ _ era))
  have ehd15 := tj15.tup _ _ e13
  have hcap : ca ≠ pen := fun e => by rw [e] at ek; obtain ⟨_, _, _, z, _⟩ := hP3; rw [z] at ek; cases ek
  have ek13 : H13 ca = some (.dK kvs) := s413 _ _ (s4 _ _ ek)
  have ek15 : H15 ca = some (.dK kvs) := c1315 _ _ hcap ek13
  have hccp : cc ≠ pen := fun e => by
    have z := s13 _ _ (s12 _ _ e11)
    rw [e, hpp] at z
    cases z
  have ecc15 : H15 cc = some (.dK kvs) := c1315 _ _ hccp (s13 _ _ (s12 _ _ e11))
  refine g_isLa el ?_
  refine for_L (xs := vs) (fun j σ H' => (∃ x11 x12 : Option V, σ = [some (.ref a), some (.ref pen), some x, some (.ref ca), some (.ref ra), some (.ref na), some (.ref kt), some (.ref pt), x8, some (.ref hd), some u, x11, x12]) ∧ Same H15 H') (fun j σ H' ⟨_, s⟩ => s _ _ el) ⟨⟨_, _, rfl⟩, .refl _⟩ ?_ ?_
  rotate_left
  · rintro σ H16 ⟨⟨y11, y12, rfl⟩, s16⟩
    exact ⟨_, _, _, _, _, _, _, _, _, _, _, rfl, hP15.same s16, fun _ => ⟨ca, ra, cs, roots, rfl, rfl, hC15.same s16, hra, s16 _ _ era15, hrl⟩⟩
  rintro j v σ H16 hv ⟨⟨y11, y12, rfl⟩, s16⟩
  obtain ⟨d, jd, fd⟩ := hvs v (List.mem_of_getElem? hv)
  have ehd16 := s16 _ _ ehd15
  walk_at "gg"
  refine ⟨cc, rc, cs, roots, v, d, rfl, hCc15.same s16, s16 _ _ erc15, by omega, jd.mono (Same.tj s16), fd.up (by omega), fun b1 H17 hb1 s17 => ?_⟩
  have s17' := s16.trans s17
  walk_at "gg"
  refine ⟨ca, ra, cs, roots, v, d, rfl, hC15.same s17', s17' _ _ era15, by omega, jd.mono (Same.tj s17'), fd.up (by omega), fun b2 H18 hb2 s18 => ?_⟩
  have s18' := s17'.trans s18
  have hbb : b1 = b2 := Bool.eq_iff_iff.mpr (hb1.trans hb2.symm)
  subst hbb
  walk_at "gg"
  refine ⟨b1, rfl, ?_⟩
  walk_at "gg"
  rename_i p19 H19 n19 e19 s19
  have s19' := s18'.trans s19
  refine g_neH (s19' _ _ ehd15) e19 (s19' _ _ ecc15) (s19' _ _ ek15) (nd_keys (keys_cells hp) hC.nd) (flat_cells hp) (s19' _ _ erc15) (s19' _ _ era15) (flatB_ints roots) ?_
  walk_at "gg"
  exact ⟨⟨_, _, rfl⟩, s19'⟩

/-! ### the row -/
structure TX (w : World) (K : PySem.W.Frag) (mg : Str → Option Value) : Prop where
  d_named_by : ∃ fd, FunD K "named_by" "named_by" (defArgs (topS 1)) (defBody (topS 1)) (defScope (topS 1)) [] [] (He.ga K "named_by") fd
  f_named_by : mg "named_by" = some (.ref (He.ga K "named_by"))
  d_is_alike : ∃ fd, FunD K "is_alike" "is_alike" (defArgs (topS 3)) (defBody (topS 3)) (defScope (topS 3)) [] [] (He.ga K "is_alike") fd
  f_is_alike : mg "is_alike" = some (.ref (He.ga K "is_alike"))
  d_is_way : ∃ fd, FunD K "is_way" "is_way" (defArgs (topS 5)) (defBody (topS 5)) (defScope (topS 5)) [] [] (He.ga K "is_way") fd
  f_is_way : mg "is_way" = some (.ref (He.ga K "is_way"))
  d_are_kept : ∃ fd, FunD K "are_kept" "are_kept" (defArgs (topS 6)) (defBody (topS 6)) (defScope (topS 6)) [] [] (He.ga K "are_kept") fd
  f_are_kept : mg "are_kept" = some (.ref (He.ga K "are_kept"))
  d_lets_sweep : ∃ fd, FunD K "lets_sweep" "lets_sweep" (defArgs (topS 7)) (defBody (topS 7)) (defScope (topS 7)) [] [] (He.ga K "lets_sweep") fd
  f_lets_sweep : mg "lets_sweep" = some (.ref (He.ga K "lets_sweep"))
  d_law_pen : ∃ fd, FunD K "_law_pen" "_law_pen" (defArgs (topS 9)) (defBody (topS 9)) (defScope (topS 9)) [] [] (He.ga K "_law_pen") fd
  f_law_pen : mg "_law_pen" = some (.ref (He.ga K "_law_pen"))
  d_law_draw : ∃ fd, FunD K "_law_draw" "_law_draw" (defArgs (topS 10)) (defBody (topS 10)) (defScope (topS 10)) [] [] (He.ga K "_law_draw") fd
  f_law_draw : mg "_law_draw" = some (.ref (He.ga K "_law_draw"))
  d_law_named : ∃ fd, FunD K "_law_named" "_law_named" (defArgs (topS 11)) (defBody (topS 11)) (defScope (topS 11)) [] [] (He.ga K "_law_named") fd
  f_law_named : mg "_law_named" = some (.ref (He.ga K "_law_named"))
  d_law_reached : ∃ fd, FunD K "_law_reached" "_law_reached" (defArgs (topS 12)) (defBody (topS 12)) (defScope (topS 12)) [] [] (He.ga K "_law_reached") fd
  f_law_reached : mg "_law_reached" = some (.ref (He.ga K "_law_reached"))
  d_law_same : ∃ fd, FunD K "_law_same" "_law_same" (defArgs (topS 13)) (defBody (topS 13)) (defScope (topS 13)) [] [] (He.ga K "_law_same") fd
  f_law_same : mg "_law_same" = some (.ref (He.ga K "_law_same"))
  d_law_cells : ∃ fd, FunD K "_law_cells" "_law_cells" (defArgs (topS 14)) (defBody (topS 14)) (defScope (topS 14)) [] [] (He.ga K "_law_cells") fd
  f_law_cells : mg "_law_cells" = some (.ref (He.ga K "_law_cells"))
  d_law_paper_right : ∃ fd, FunD K "_law_paper_right" "_law_paper_right" (defArgs (topS 15)) (defBody (topS 15)) (defScope (topS 15)) [] [] (He.ga K "_law_paper_right") fd
  f_law_paper_right : mg "_law_paper_right" = some (.ref (He.ga K "_law_paper_right"))
  d_law_way : ∃ fd, FunD K "_law_way" "_law_way" (defArgs (topS 16)) (defBody (topS 16)) (defScope (topS 16)) [] [] (He.ga K "_law_way") fd
  f_law_way : mg "_law_way" = some (.ref (He.ga K "_law_way"))
  d_law_bent_row : ∃ fd, FunD K "_law_bent_row" "_law_bent_row" (defArgs (topS 17)) (defBody (topS 17)) (defScope (topS 17)) [] [] (He.ga K "_law_bent_row") fd
  f_law_bent_row : mg "_law_bent_row" = some (.ref (He.ga K "_law_bent_row"))
  d_law_bent_paper : ∃ fd, FunD K "_law_bent_paper" "_law_bent_paper" (defArgs (topS 18)) (defBody (topS 18)) (defScope (topS 18)) [] [] (He.ga K "_law_bent_paper") fd
  f_law_bent_paper : mg "_law_bent_paper" = some (.ref (He.ga K "_law_bent_paper"))
  d_law : ∃ fd, FunD K "law" "law" (defArgs (topS 19)) (defBody (topS 19)) (defScope (topS 19)) [] [] (He.ga K "law") fd
  f_law : mg "law" = some (.ref (He.ga K "law"))
  n_list : mg "list" = none
  n_tuple : mg "tuple" = none
  n_isinstance : mg "isinstance" = none
  n_len : mg "len" = none
  n_zip : mg "zip" = none
  n_all : mg "all" = none
  n_str : mg "str" = none
  n_int : mg "int" = none
  n_bool : mg "bool" = none
  n_range : mg "range" = none
  n_max : mg "max" = none
  n_abs : mg "abs" = none
  n_repr : mg "repr" = none
  n_set : mg "set" = none
  n_sorted : mg "sorted" = none
  n_dict : mg "dict" = none
abbrev st_named_by : Stmt := topS 1
theorem sc_named_by : FnScope ["cell"] ["cell"] (defScope st_named_by) := ⟨rfl, rfl, rfl, by decide +kernel, rfl, by decide +kernel, by decide +kernel⟩
theorem mk_named_by {P : Program} {w : World} {K : PySem.W.Frag} {mg : Str → Option Value} {base : Heap} (T : TX w K mg) {j : Nat} {sp : Sp}
    (pure_ : PureOk 1 sp (t_named_by K w ) 1) : Cal P w K mg base (j + 1) "named_by" sp := by
  obtain ⟨fd, F⟩ := T.d_named_by
  refine cal_mk F T.f_named_by sc_named_by (F.bindsN fun _ _ _ _ _ _ us hl => match us, hl with | [_], _ => rfl) pure_.len fun cdv A outer s H vs Q E hr h => ?_
  refine ⟨t_named_by K w , PSs.nox ?_, pure_.run vs H Q E h⟩
  exact (pss_cons (ps_if (pt_cmpR (op_inG (hu_of hr)) (pe_ixG (hu_of hr) (pv 0) pe_int (fun _ _ => rfl)) (pe_tupN (pa_cons pe_str (pa_cons pe_str (pa_cons pe_str pa_nil)))) (by rfl)) (pss_one (ps_ret (pe_lstN pa_nil))) pss_nil)
  (pss_cons (ps_if (pt_cmpR (op_eqG (hu2_of hr)) (pe_ixG (hu_of hr) (pv 0) pe_int (fun _ _ => rfl)) pe_str (nomark _)) (pss_one (ps_ret (pe_callTy (call_listG rfl) (by rfl) T.n_list (by decide +kernel) (pa_cons (pe_ixG (hu_of hr) (pv 0) pe_int (fun _ _ => rfl)) pa_nil)))) pss_nil)
  (pss_one (ps_ret (pe_callTy (call_listG rfl) (by rfl) T.n_list (by decide +kernel) (pa_cons (pe_slice sl_any (pv 0) (po_some pe_int) po_none) pa_nil))))))
abbrev st_is_alike : Stmt := topS 3
theorem sc_is_alike : FnScope ["thing", "due", "one", "other"] ["thing", "due"] (defScope st_is_alike) := ⟨rfl, rfl, rfl, by decide +kernel, rfl, by decide +kernel, by decide +kernel⟩
theorem mk_is_alike {P : Program} {w : World} {K : PySem.W.Frag} {mg : Str → Option Value} {base : Heap} (T : TX w K mg) {j : Nat} {sp : Sp} {s_is_alike : Sp} (c_is_alike : Cal P w K mg base j "is_alike" s_is_alike)
    (pure_ : PureOk 2 sp (t_is_alike K w s_is_alike) 4) : Cal P w K mg base (j + 1) "is_alike" sp := by
  obtain ⟨fd, F⟩ := T.d_is_alike
  refine cal_mk F T.f_is_alike sc_is_alike (F.bindsN fun _ _ _ _ _ _ us hl => match us, hl with | [_, _], _ => rfl) pure_.len fun cdv A outer s H vs Q E hr h => ?_
  refine ⟨t_is_alike K w s_is_alike, PSs.nox ?_, pure_.run vs H Q E h⟩
  exact (pss_cons (ps_if (pt_tru (pe_callB call_isiG (by rfl) T.n_isinstance (by decide +kernel) (pa_cons (pv 1) (pa_cons (pe_bltn (v := .ty "tuple") rfl T.n_tuple (by decide +kernel) rfl) pa_nil))) (by intro _; rfl)) (pss_cons (ps_if (PW.pt (pw_or (pt_not (pt_tru (pe_callB call_isiG (by rfl) T.n_isinstance (by decide +kernel) (pa_cons (pv 0) (pa_cons (pe_bltn (v := .ty "tuple") rfl T.n_tuple (by decide +kernel) rfl) pa_nil))) (by intro _; rfl))) (pw_or1 (pt_cmpR (op_neG (hu2_of hr)) (pe_callB call_lenG (by rfl) T.n_len (by decide +kernel) (pa_cons (pv 0) pa_nil)) (pe_callB call_lenG (by rfl) T.n_len (by decide +kernel) (pa_cons (pv 1) pa_nil)) (nomark _))))) (pss_one (ps_ret pe_bl)) pss_nil)
  (pss_one (ps_ret (pe_callB (cr_all rfl) (by rfl) T.n_all (by decide +kernel) (pa_cons (pe_lc (own := [("one", 2), ("other", 3)]) (g := (gTup K 2 (gCons (gName 2) (gCons (gName 3) gNil)))) (tt := tYes) rfl sc_is_alike.nd (pi_zipM (by rfl) T.n_zip (pa_cons (pv 0) (pa_cons (pv 1) pa_nil))) (blkOk_by (by kernel_rfl)) (fun _ _ _ _ _ => (pg_tup rfl (pgs_cons (pg_name (i := 2) sc_is_alike.nd rfl (by first | exact Or.inl rfl | exact Or.inr rfl)) (pgs_cons (pg_name (i := 3) sc_is_alike.nd rfl (by first | exact Or.inl rfl | exact Or.inr rfl)) pgs_nil)))) (fun _ _ _ _ _ => pts_nil) (fun _ _ _ _ _ => (pe_cal c_is_alike hr rfl (pa_cons (pv 2) (pa_cons (pv 3) pa_nil))))) pa_nil))))) pss_nil)
  (pss_cons (ps_if (pt_tru (pe_callB call_isiG (by rfl) T.n_isinstance (by decide +kernel) (pa_cons (pv 1) (pa_cons (pe_bltn (v := .ty "str") rfl T.n_str (by decide +kernel) rfl) pa_nil))) (by intro _; rfl)) (pss_one (ps_ret (pe_andT (pe_callB call_isiG (by rfl) T.n_isinstance (by decide +kernel) (pa_cons (pv 0) (pa_cons (pe_bltn (v := .ty "str") rfl T.n_str (by decide +kernel) rfl) pa_nil))) (pe_one (pe_cmpR (op_eqG (hu2_of hr)) (pv 0) (pv 1) (nomark _)))))) pss_nil)
  (pss_one (ps_ret (pe_andT (pe_callB call_isiG (by rfl) T.n_isinstance (by decide +kernel) (pa_cons (pv 0) (pa_cons (pe_bltn (v := .ty "int") rfl T.n_int (by decide +kernel) rfl) pa_nil))) (pe_andT (pe_notT (pe_callB call_isiG (by rfl) T.n_isinstance (by decide +kernel) (pa_cons (pv 0) (pa_cons (pe_bltn (v := .ty "bool") rfl T.n_bool (by decide +kernel) rfl) pa_nil)))) (pe_one (pe_cmpR (op_eqG (hu2_of hr)) (pv 0) (pv 1) (nomark _)))))))))
abbrev st_is_way : Stmt := topS 5
theorem sc_is_way : FnScope ["cells", "roots", "way", "number", "k"] ["cells", "roots", "way", "number"] (defScope st_is_way) := ⟨rfl, rfl, rfl, by decide +kernel, rfl, by decide +kernel, by decide +kernel⟩
theorem mk_is_way {P : Program} {w : World} {K : PySem.W.Frag} {mg : Str → Option Value} {base : Heap} (T : TX w K mg) {j : Nat} {sp : Sp} {s_is_alike s_named_by : Sp} (c_is_alike : Cal P w K mg base j "is_alike" s_is_alike) (c_named_by : Cal P w K mg base j "named_by" s_named_by)
    (pure_ : PureOk 4 sp (t_is_way K w s_is_alike s_named_by) 5) : Cal P w K mg base (j + 1) "is_way" sp := by
  obtain ⟨fd, F⟩ := T.d_is_way
  refine cal_mk F T.f_is_way sc_is_way (F.bindsN fun _ _ _ _ _ _ us hl => match us, hl with | [_, _, _, _], _ => rfl) pure_.len fun cdv A outer s H vs Q E hr h => ?_
  refine ⟨t_is_way K w s_is_alike s_named_by, PSs.nox ?_, pure_.run vs H Q E h⟩
  exact (pss_cons (ps_if (PW.pt (pw_or (pt_not (pt_tru (pe_callB call_isiG (by rfl) T.n_isinstance (by decide +kernel) (pa_cons (pv 2) (pa_cons (pe_bltn (v := .ty "tuple") rfl T.n_tuple (by decide +kernel) rfl) pa_nil))) (by intro _; rfl))) (pw_or (pt_cmpR (op_eqT (hu2_of hr)) (pv 2) (pe_tupN pa_nil) (nomark _)) (pw_or1 (pt_not (pt_tru (pe_cal c_is_alike hr rfl (pa_cons (pe_ixG (hu_of hr) (pv 2) (pe_un un_neg pe_int) (fun _ _ => rfl)) (pa_cons (pv 3) pa_nil))) (by intro _; rfl))))))) (pss_one (ps_ret pe_bl)) pss_nil)
  (pss_cons (ps_for PassesOwn.never rfl (pi_range1 (by rfl) T.n_range (pa_cons (pe_callB call_lenG (by rfl) T.n_len (by decide +kernel) (pa_cons (pv 2) pa_nil)) pa_nil)) (pg_name (i := 4) sc_is_way.nd rfl (by first | exact Or.inl rfl | exact Or.inr rfl)) (pss_cons (ps_if (PW.pt (pw_or (pt_not (pt_tru (pe_callB call_isiG (by rfl) T.n_isinstance (by decide +kernel) (pa_cons (pe_ixG (hu_of hr) (pv 2) (pv 4) (fun _ _ => rfl)) (pa_cons (pe_bltn (v := .ty "int") rfl T.n_int (by decide +kernel) rfl) pa_nil))) (by intro _; rfl))) (pw_or (pt_tru (pe_callB call_isiG (by rfl) T.n_isinstance (by decide +kernel) (pa_cons (pe_ixG (hu_of hr) (pv 2) (pv 4) (fun _ _ => rfl)) (pa_cons (pe_bltn (v := .ty "bool") rfl T.n_bool (by decide +kernel) rfl) pa_nil))) (by intro _; rfl)) (pw_or1 (pt_cmpR (op_notInG (hu_of hr)) (pe_ixG (hu_of hr) (pv 2) (pv 4) (fun _ _ => rfl)) (pv 0) (by rfl)))))) (pss_one (ps_ret pe_bl)) pss_nil)
  (pss_one (ps_if (PW.pt (pw_or (PW.pt (pw_and (pt_cmpR (op_eqG (hu2_of hr)) (pv 4) pe_int (nomark _)) (pw_and1 (pt_cmpR (op_notInG (hu_of hr)) (pe_ixG (hu_of hr) (pv 2) (pv 4) (fun _ _ => rfl)) (pv 1) (by rfl))))) (pw_or1 (PW.pt (pw_and (pt_cmpR op_gt (pv 4) pe_int (nomark _)) (pw_and1 (pt_cmpR (op_notInG (hu_of hr)) (pe_ixG (hu_of hr) (pv 2) (pv 4) (fun _ _ => rfl)) (pe_cal c_named_by hr rfl (pa_cons (pe_ixG (hu_of hr) (pv 0) (pe_ixG (hu_of hr) (pv 2) (pe_op op_sub (pv 4) pe_int) (fun _ _ => rfl)) (fun _ _ => rfl)) pa_nil)) (by rfl)))))))) (pss_one (ps_ret pe_bl)) pss_nil))))
  (pss_one (ps_ret pe_bl))))
abbrev st_are_kept : Stmt := topS 6
theorem sc_are_kept : FnScope ["cells", "roots", "kept", "there", "k", "number", "other"] ["cells", "roots", "kept"] (defScope st_are_kept) := ⟨rfl, rfl, rfl, by decide +kernel, rfl, by decide +kernel, by decide +kernel⟩
theorem mk_are_kept {P : Program} {w : World} {K : PySem.W.Frag} {mg : Str → Option Value} {base : Heap} (T : TX w K mg) {j : Nat} {sp : Sp} {s_named_by : Sp} (c_named_by : Cal P w K mg base j "named_by" s_named_by)
    (pure_ : PureOk 3 sp (t_are_kept K w s_named_by) 7) : Cal P w K mg base (j + 1) "are_kept" sp := by
  obtain ⟨fd, F⟩ := T.d_are_kept
  refine cal_mk F T.f_are_kept sc_are_kept (F.bindsN fun _ _ _ _ _ _ us hl => match us, hl with | [_, _, _], _ => rfl) pure_.len fun cdv A outer s H vs Q E hr h => ?_
  refine ⟨t_are_kept K w s_named_by, PSs.nox ?_, pure_.run vs H Q E h⟩
  exact (pss_cons (ps_if (pt_not (pt_tru (pe_callB call_isiG (by rfl) T.n_isinstance (by decide +kernel) (pa_cons (pv 2) (pa_cons (pe_bltn (v := .ty "tuple") rfl T.n_tuple (by decide +kernel) rfl) pa_nil))) (by intro _; rfl))) (pss_one (ps_ret pe_bl)) pss_nil)
  (pss_cons (ps_set (i := 3) sc_are_kept.nd rfl (Or.inr rfl) pe_dnewKN)
  (pss_cons (ps_for PassesOwn.never rfl (pi_range1 (by rfl) T.n_range (pa_cons (pe_callB call_lenG (by rfl) T.n_len (by decide +kernel) (pa_cons (pv 2) pa_nil)) pa_nil)) (pg_name (i := 4) sc_are_kept.nd rfl (by first | exact Or.inl rfl | exact Or.inr rfl)) (pss_cons (ps_if (PW.pt (pw_or (pt_not (pt_tru (pe_callB call_isiG (by rfl) T.n_isinstance (by decide +kernel) (pa_cons (pe_ixG (hu_of hr) (pv 2) (pv 4) (fun _ _ => rfl)) (pa_cons (pe_bltn (v := .ty "int") rfl T.n_int (by decide +kernel) rfl) pa_nil))) (by intro _; rfl))) (pw_or (pt_tru (pe_callB call_isiG (by rfl) T.n_isinstance (by decide +kernel) (pa_cons (pe_ixG (hu_of hr) (pv 2) (pv 4) (fun _ _ => rfl)) (pa_cons (pe_bltn (v := .ty "bool") rfl T.n_bool (by decide +kernel) rfl) pa_nil))) (by intro _; rfl)) (pw_or1 (pt_cmpR (op_notInG (hu_of hr)) (pe_ixG (hu_of hr) (pv 2) (pv 4) (fun _ _ => rfl)) (pv 0) (by rfl)))))) (pss_one (ps_ret pe_bl)) pss_nil)
  (pss_cons (ps_if (PW.pt (pw_and (pt_cmpR op_gt (pv 4) pe_int (nomark _)) (pw_and1 (pt_cmpR op_ge (pe_ixG (hu_of hr) (pv 2) (pe_op op_sub (pv 4) pe_int) (fun _ _ => rfl)) (pe_ixG (hu_of hr) (pv 2) (pv 4) (fun _ _ => rfl)) (nomark _))))) (pss_one (ps_ret pe_bl)) pss_nil)
  (pss_one (ps_asg pe_bl (pg_sub (pv 3) (pe_ixG (hu_of hr) (pv 2) (pv 4) (fun _ _ => rfl)) (set_any (hu_of hr))))))))
  (pss_cons (ps_for PassesOwn.never rfl (pi_seq (pv 2)) (pg_name (i := 5) sc_are_kept.nd rfl (by first | exact Or.inl rfl | exact Or.inr rfl)) (pss_one (ps_if (pt_not (pt_tru (pe_callB (cr_all rfl) (by rfl) T.n_all (by decide +kernel) (pa_cons (pe_lc (own := [("other", 6)]) (g := (gName 6)) (tt := tYes) rfl sc_are_kept.nd (pi_seq (pe_cal c_named_by hr rfl (pa_cons (pe_ixG (hu_of hr) (pv 0) (pv 5) (fun _ _ => rfl)) pa_nil))) (blkOk_by (by kernel_rfl)) (fun _ _ _ _ _ => (pg_name (i := 6) sc_are_kept.nd rfl (by first | exact Or.inl rfl | exact Or.inr rfl))) (fun _ _ _ _ _ => pts_nil) (fun _ _ _ _ _ => (pe_cmpR (op_inG (hu_of hr)) (pv 6) (pv 3) (by rfl)))) pa_nil)) (by intro _; rfl))) (pss_one (ps_ret pe_bl)) pss_nil)))
  (pss_one (ps_ret (pe_callB (cr_all rfl) (by rfl) T.n_all (by decide +kernel) (pa_cons (pe_lc (own := [("number", 5)]) (g := (gName 5)) (tt := tYes) rfl sc_are_kept.nd (pi_seq (pv 1)) (blkOk_by (by kernel_rfl)) (fun _ _ _ _ _ => (pg_name (i := 5) sc_are_kept.nd rfl (by first | exact Or.inl rfl | exact Or.inr rfl))) (fun _ _ _ _ _ => pts_nil) (fun _ _ _ _ _ => (pe_cmpR (op_inG (hu_of hr)) (pv 5) (pv 3) (by rfl)))) pa_nil))))))))
abbrev st_lets_sweep : Stmt := topS 7
theorem sc_lets_sweep : FnScope ["cells", "roots", "thing", "way", "number"] ["cells", "roots", "thing"] (defScope st_lets_sweep) := ⟨rfl, rfl, rfl, by decide +kernel, rfl, by decide +kernel, by decide +kernel⟩
theorem mk_lets_sweep {P : Program} {w : World} {K : PySem.W.Frag} {mg : Str → Option Value} {base : Heap} (T : TX w K mg) {j : Nat} {sp : Sp} {s_are_kept s_is_way : Sp} (c_are_kept : Cal P w K mg base j "are_kept" s_are_kept) (c_is_way : Cal P w K mg base j "is_way" s_is_way)
    (pure_ : PureOk 3 sp (t_lets_sweep K w s_are_kept s_is_way) 5) : Cal P w K mg base (j + 1) "lets_sweep" sp := by
  obtain ⟨fd, F⟩ := T.d_lets_sweep
  refine cal_mk F T.f_lets_sweep sc_lets_sweep (F.bindsN fun _ _ _ _ _ _ us hl => match us, hl with | [_, _, _], _ => rfl) pure_.len fun cdv A outer s H vs Q E hr h => ?_
  refine ⟨t_lets_sweep K w s_are_kept s_is_way, PSs.nox ?_, pure_.run vs H Q E h⟩
  exact (pss_cons (ps_if (PW.pt (pw_or (pt_not (pt_tru (pe_callB call_isiG (by rfl) T.n_isinstance (by decide +kernel) (pa_cons (pv 2) (pa_cons (pe_bltn (v := .ty "tuple") rfl T.n_tuple (by decide +kernel) rfl) pa_nil))) (by intro _; rfl))) (pw_or (pt_cmpR (op_neG (hu2_of hr)) (pe_callB call_lenG (by rfl) T.n_len (by decide +kernel) (pa_cons (pv 2) pa_nil)) pe_int (nomark _)) (pw_or1 (pt_not (pt_tru (pe_cal c_are_kept hr rfl (pa_cons (pv 0) (pa_cons (pv 1) (pa_cons (pe_ixG (hu_of hr) (pv 2) pe_int (fun _ _ => rfl)) pa_nil)))) (by intro _; rfl))))))) (pss_one (ps_ret pe_bl)) pss_nil)
  (pss_cons (ps_if (PW.pt (pw_or (pt_not (pt_tru (pe_callB call_isiG (by rfl) T.n_isinstance (by decide +kernel) (pa_cons (pe_ixG (hu_of hr) (pv 2) pe_int (fun _ _ => rfl)) (pa_cons (pe_bltn (v := .ty "tuple") rfl T.n_tuple (by decide +kernel) rfl) pa_nil))) (by intro _; rfl))) (pw_or1 (pt_cmpR (op_neG (hu2_of hr)) (pe_callB call_lenG (by rfl) T.n_len (by decide +kernel) (pa_cons (pe_ixG (hu_of hr) (pv 2) pe_int (fun _ _ => rfl)) pa_nil)) (pe_callB call_lenG (by rfl) T.n_len (by decide +kernel) (pa_cons (pe_ixG (hu_of hr) (pv 2) pe_int (fun _ _ => rfl)) pa_nil)) (nomark _))))) (pss_one (ps_ret pe_bl)) pss_nil)
  (pss_one (ps_ret (pe_callB (cr_all rfl) (by rfl) T.n_all (by decide +kernel) (pa_cons (pe_lc (own := [("way", 3), ("number", 4)]) (g := (gTup K 2 (gCons (gName 3) (gCons (gName 4) gNil)))) (tt := tYes) rfl sc_lets_sweep.nd (pi_zipM (by rfl) T.n_zip (pa_cons (pe_ixG (hu_of hr) (pv 2) pe_int (fun _ _ => rfl)) (pa_cons (pe_ixG (hu_of hr) (pv 2) pe_int (fun _ _ => rfl)) pa_nil))) (blkOk_by (by kernel_rfl)) (fun _ _ _ _ _ => (pg_tup rfl (pgs_cons (pg_name (i := 3) sc_lets_sweep.nd rfl (by first | exact Or.inl rfl | exact Or.inr rfl)) (pgs_cons (pg_name (i := 4) sc_lets_sweep.nd rfl (by first | exact Or.inl rfl | exact Or.inr rfl)) pgs_nil)))) (fun _ _ _ _ _ => pts_nil) (fun _ _ _ _ _ => (pe_cal c_is_way hr rfl (pa_cons (pv 0) (pa_cons (pv 1) (pa_cons (pv 3) (pa_cons (pv 4) pa_nil))))))) pa_nil))))))
abbrev st_law_pen : Stmt := topS 9
theorem sc_law_pen : FnScope ["_law_script"] ["_law_script"] (defScope st_law_pen) := ⟨rfl, rfl, rfl, by decide +kernel, rfl, by decide +kernel, by decide +kernel⟩
theorem mk_law_pen {P : Program} {w : World} {K : PySem.W.Frag} {mg : Str → Option Value} {base : Heap} (T : TX w K mg) {j : Nat} {sp : Sp}
    (pure_ : PureOk 1 sp (t_law_pen K w ) 1) : Cal P w K mg base (j + 1) "_law_pen" sp := by
  obtain ⟨fd, F⟩ := T.d_law_pen
  refine cal_mk F T.f_law_pen sc_law_pen (F.bindsN fun _ _ _ _ _ _ us hl => match us, hl with | [_], _ => rfl) pure_.len fun cdv A outer s H vs Q E hr h => ?_
  refine ⟨t_law_pen K w , PSs.nox ?_, pure_.run vs H Q E h⟩
  exact (pss_one (ps_ret (pe_lstN (pa_cons (pe_callTy (call_listG rfl) (by rfl) T.n_list (by decide +kernel) (pa_cons (pe_slice sl_any (pv 0) po_none (po_some pe_int)) pa_nil)) (pa_cons pe_int (pa_cons pe_int pa_nil))))))
abbrev st_law_draw : Stmt := topS 10
theorem sc_law_draw : FnScope ["_law_pen_here", "_law_many", "_law_digit", "_law_at", "_law_cell", "_law_prime", "_law_number"] ["_law_pen_here", "_law_many"] (defScope st_law_draw) := ⟨rfl, rfl, rfl, by decide +kernel, rfl, by decide +kernel, by decide +kernel⟩
theorem mk_law_draw {P : Program} {w : World} {K : PySem.W.Frag} {mg : Str → Option Value} {base : Heap} (T : TX w K mg) {j : Nat} {sp : Sp}
    (pure_ : PureOk 2 sp (t_law_draw K w ) 7) : Cal P w K mg base (j + 1) "_law_draw" sp := by
  obtain ⟨fd, F⟩ := T.d_law_draw
  refine cal_mk F T.f_law_draw sc_law_draw (F.bindsN fun _ _ _ _ _ _ us hl => match us, hl with | [_, _], _ => rfl) pure_.len fun cdv A outer s H vs Q E hr h => ?_
  refine ⟨t_law_draw K w , PSs.nox ?_, pure_.run vs H Q E h⟩
  exact (pss_cons (ps_if (pt_cmpR op_gt (pe_ixG (hu_of hr) (pv 0) pe_int (fun _ _ => rfl)) pe_int (nomark _)) (pss_cons (ps_set (i := 2) sc_law_draw.nd rfl (Or.inl rfl) (pe_op op_mod (pe_ixG (hu_of hr) (pv 0) pe_int (fun _ _ => rfl)) (pv 1)))
  (pss_cons (ps_asg (pe_op op_fdivW (pe_ixG (hu_of hr) (pv 0) pe_int (fun _ _ => rfl)) (pv 1)) (pg_sub (pv 0) pe_int (set_any (hu_of hr))))
  (pss_one (ps_ret (pv 2))))) pss_nil)
  (pss_cons (ps_set (i := 3) sc_law_draw.nd rfl (Or.inl rfl) (pe_ixG (hu_of hr) (pv 0) pe_int (fun _ _ => rfl)))
  (pss_cons (ps_asg (pe_op op_addG (pv 3) pe_int) (pg_sub (pv 0) pe_int (set_any (hu_of hr))))
  (pss_cons (ps_set (i := 4) sc_law_draw.nd rfl (Or.inl rfl) (pe_ixG (hu_of hr) (pe_op op_addG (pe_ixG (hu_of hr) (pv 0) pe_int (fun _ _ => rfl)) (pe_lstN (pa_cons pe_int pa_nil))) (pe_op op_mod (pv 3) (pe_callB (call_max2 rfl) (by rfl) T.n_max (by decide +kernel) (pa_cons pe_int (pa_cons (pe_callB call_lenG (by rfl) T.n_len (by decide +kernel) (pa_cons (pe_ixG (hu_of hr) (pv 0) pe_int (fun _ _ => rfl)) pa_nil)) pa_nil)))) (fun _ _ => rfl)))
  (pss_cons (ps_if (PW.pt (pw_and (pt_cmpR op_lt (pv 3) (pe_callB call_lenG (by rfl) T.n_len (by decide +kernel) (pa_cons (pe_ixG (hu_of hr) (pv 0) pe_int (fun _ _ => rfl)) pa_nil)) (nomark _)) (pw_and1 (pt_cmpR op_ge (pe_callB call_abs (by rfl) T.n_abs (by decide +kernel) (pa_cons (pv 4) pa_nil)) (pe_op op_pow pe_int pe_int) (nomark _))))) (pss_cons (ps_asg (pe_op op_fdivW (pe_callB call_abs (by rfl) T.n_abs (by decide +kernel) (pa_cons (pv 4) pa_nil)) (pv 1)) (pg_sub (pv 0) pe_int (set_any (hu_of hr))))
  (pss_one (ps_ret (pe_op op_mod (pe_callB call_abs (by rfl) T.n_abs (by decide +kernel) (pa_cons (pv 4) pa_nil)) (pv 1))))) pss_nil)
  (pss_cons (ps_set (i := 5) sc_law_draw.nd rfl (Or.inl rfl) (pe_ixG (hu_of hr) (pe_lstN (pa_cons pe_int (pa_cons pe_int (pa_cons pe_int (pa_cons pe_int (pa_cons pe_int (pa_cons pe_int (pa_cons pe_int pa_nil)))))))) (pe_op op_mod (pv 3) pe_int) (fun _ _ => rfl)))
  (pss_cons (ps_set (i := 6) sc_law_draw.nd rfl (Or.inl rfl) (pe_op op_mod (pe_op op_mulG (pe_op op_addG (pe_op op_addG (pe_op op_mod (pv 4) pe_int) (pe_op op_mulG pe_int (pv 3))) pe_int) pe_int) (pv 5)))
  (pss_cons (ps_set (i := 6) sc_law_draw.nd rfl (Or.inl rfl) (pe_op op_mod (pe_op op_addG (pe_op op_addG (pe_op op_mulG (pv 6) (pv 6)) (pe_op op_mulG pe_int (pv 6))) (pv 3)) pe_int))
  (pss_one (ps_ret (pe_op op_mod (pe_op op_fdivW (pe_op op_mod (pe_op op_mulG (pv 6) pe_int) pe_int) pe_int) (pv 1))))))))))))
abbrev st_law_named : Stmt := topS 11
theorem sc_law_named : FnScope ["_law_cell"] ["_law_cell"] (defScope st_law_named) := ⟨rfl, rfl, rfl, by decide +kernel, rfl, by decide +kernel, by decide +kernel⟩
theorem mk_law_named {P : Program} {w : World} {K : PySem.W.Frag} {mg : Str → Option Value} {base : Heap} (T : TX w K mg) {j : Nat} {sp : Sp}
    (pure_ : PureOk 1 sp (t_law_named K w ) 1) : Cal P w K mg base (j + 1) "_law_named" sp := by
  obtain ⟨fd, F⟩ := T.d_law_named
  refine cal_mk F T.f_law_named sc_law_named (F.bindsN fun _ _ _ _ _ _ us hl => match us, hl with | [_], _ => rfl) pure_.len fun cdv A outer s H vs Q E hr h => ?_
  refine ⟨t_law_named K w , PSs.nox ?_, pure_.run vs H Q E h⟩
  exact (pss_cons (ps_if (pt_cmpR (op_inG (hu_of hr)) (pe_ixG (hu_of hr) (pv 0) pe_int (fun _ _ => rfl)) (pe_tupN (pa_cons pe_str (pa_cons pe_str (pa_cons pe_str pa_nil)))) (by rfl)) (pss_one (ps_ret (pe_lstN pa_nil))) pss_nil)
  (pss_one (ps_ret (pe_callTy (call_listG rfl) (by rfl) T.n_list (by decide +kernel) (pa_cons (pe_ixG (hu_of hr) (pe_lstN (pa_cons (pe_slice sl_any (pv 0) (po_some pe_int) po_none) (pa_cons (pe_ixG (hu_of hr) (pv 0) (pe_un un_neg pe_int) (fun _ _ => rfl)) pa_nil))) (pe_callTy call_int1 (by rfl) T.n_int (by decide +kernel) (pa_cons (pe_cmpR (op_eqG (hu2_of hr)) (pe_ixG (hu_of hr) (pv 0) pe_int (fun _ _ => rfl)) pe_str (nomark _)) pa_nil)) (fun _ _ => rfl)) pa_nil)))))
abbrev st_law_reached : Stmt := topS 12
theorem sc_law_reached : FnScope ["_law_cells_here", "_law_roots", "_law_reached_here", "_law_pile", "_law_number"] ["_law_cells_here", "_law_roots"] (defScope st_law_reached) := ⟨rfl, rfl, rfl, by decide +kernel, rfl, by decide +kernel, by decide +kernel⟩
theorem mk_law_reached {P : Program} {w : World} {K : PySem.W.Frag} {mg : Str → Option Value} {base : Heap} (T : TX w K mg) {j : Nat} {sp : Sp} {s_law_named : Sp} (c_law_named : Cal P w K mg base j "_law_named" s_law_named)
    (pure_ : PureOk 2 sp (t_law_reached K w s_law_named) 5) : Cal P w K mg base (j + 1) "_law_reached" sp := by
  obtain ⟨fd, F⟩ := T.d_law_reached
  refine cal_mk F T.f_law_reached sc_law_reached (F.bindsN fun _ _ _ _ _ _ us hl => match us, hl with | [_, _], _ => rfl) pure_.len fun cdv A outer s H vs Q E hr h => ?_
  refine ⟨t_law_reached K w s_law_named, PSs.nox ?_, pure_.run vs H Q E h⟩
  exact (pss_cons (ps_set (i := 2) sc_law_reached.nd rfl (Or.inl rfl) pe_dnewKN)
  (pss_cons (ps_set (i := 3) sc_law_reached.nd rfl (Or.inl rfl) (pe_callTy (call_listG rfl) (by rfl) T.n_list (by decide +kernel) (pa_cons (pv 1) pa_nil)))
  (pss_cons (ps_while PassesOwn.never (pt_cmpR (op_neG (hu2_of hr)) (pv 3) (pe_lstN pa_nil) (nomark _)) (pss_cons (ps_set (i := 4) sc_law_reached.nd rfl (Or.inl rfl) (pe_bm0 PySem.F.plainAttrs_list PySem.F.slot_list_pop PySem.F.type_list_pop mt_popG (pv 3)))
  (pss_one (ps_if (pt_cmpR (op_notInG (hu_of hr)) (pv 4) (pv 2) (by rfl)) (pss_cons (ps_asg pe_bl (pg_sub (pv 2) (pv 4) (set_any (hu_of hr))))
  (pss_one (ps_expr (pe_bm PySem.F.plainAttrs_list PySem.F.slot_list_extend PySem.F.type_list_extend mt_extendG (pv 3) (pa_cons (pe_cal c_law_named hr rfl (pa_cons (pe_ixG (hu_of hr) (pv 0) (pv 4) (fun _ _ => rfl)) pa_nil)) pa_nil))))) pss_nil))))
  (pss_one (ps_ret (pv 2))))))
abbrev st_law_same : Stmt := topS 13
theorem sc_law_same : FnScope ["_law_one", "_law_other"] ["_law_one", "_law_other"] (defScope st_law_same) := ⟨rfl, rfl, rfl, by decide +kernel, rfl, by decide +kernel, by decide +kernel⟩
theorem mk_law_same {P : Program} {w : World} {K : PySem.W.Frag} {mg : Str → Option Value} {base : Heap} (T : TX w K mg) {j : Nat} {sp : Sp}
    (pure_ : PureOk 2 sp (t_law_same K w ) 2) : CalG P w K mg base (j + 1) "_law_same" sp := by
  obtain ⟨fd, F⟩ := T.d_law_same
  refine calG_mk F T.f_law_same sc_law_same (F.bindsN fun _ _ _ _ _ _ us hl => match us, hl with | [_, _], _ => rfl) pure_.len fun cdv A outer s H vs Q E hr hgd h => ?_
  refine ⟨t_law_same K w , PSs.nox ?_, pure_.run vs H Q E h⟩
  exact (pss_one (ps_ret (pe_cmpR (op_eqG (hu2_of hr)) (pe_callB (cr_repr hgd (hu2_of hr)) (by rfl) T.n_repr (by decide +kernel) (pa_cons (pv 0) pa_nil)) (pe_callB (cr_repr hgd (hu2_of hr)) (by rfl) T.n_repr (by decide +kernel) (pa_cons (pv 1) pa_nil)) (nomark _))))
abbrev st_law_cells : Stmt := topS 14
theorem sc_law_cells : FnScope ["_law_pen_here", "_law_many", "_law_first", "_law_by", "_law_numbers", "_law_k", "_law_cells_here", "_law_some", "_law_j", "_law_kinds", "_law_number"] ["_law_pen_here"] (defScope st_law_cells) := ⟨rfl, rfl, rfl, by decide +kernel, rfl, by decide +kernel, by decide +kernel⟩
theorem mk_law_cells {P : Program} {w : World} {K : PySem.W.Frag} {mg : Str → Option Value} {base : Heap} (T : TX w K mg) {j : Nat} {sp : Sp} {s_law_draw : Sp} (c_law_draw : Cal P w K mg base j "_law_draw" s_law_draw)
    (pure_ : PureOk 1 sp (t_law_cells K w s_law_draw) 11) : Cal P w K mg base (j + 1) "_law_cells" sp := by
  obtain ⟨fd, F⟩ := T.d_law_cells
  refine cal_mk F T.f_law_cells sc_law_cells (F.bindsN fun _ _ _ _ _ _ us hl => match us, hl with | [_], _ => rfl) pure_.len fun cdv A outer s H vs Q E hr h => ?_
  refine ⟨t_law_cells K w s_law_draw, PSs.nox ?_, pure_.run vs H Q E h⟩
  exact (pss_cons (ps_set (i := 1) sc_law_cells.nd rfl (Or.inr rfl) (pe_op op_addG pe_int (pe_cal c_law_draw hr rfl (pa_cons (pv 0) (pa_cons pe_int pa_nil)))))
  (pss_cons (ps_asg (pe_tupN (pa_cons (pe_cal c_law_draw hr rfl (pa_cons (pv 0) (pa_cons pe_int pa_nil))) (pa_cons (pe_op op_addG pe_int (pe_cal c_law_draw hr rfl (pa_cons (pv 0) (pa_cons pe_int pa_nil)))) pa_nil))) (pg_tup rfl (pgs_cons (pg_name (i := 2) sc_law_cells.nd rfl (by first | exact Or.inl rfl | exact Or.inr rfl)) (pgs_cons (pg_name (i := 3) sc_law_cells.nd rfl (by first | exact Or.inl rfl | exact Or.inr rfl)) pgs_nil))))
  (pss_cons (ps_set (i := 4) sc_law_cells.nd rfl (Or.inr rfl) (pe_lc (own := [("_law_k", 5)]) (g := (gName 5)) (tt := tYes) rfl sc_law_cells.nd (pi_range1 (by rfl) T.n_range (pa_cons (pv 1) pa_nil)) (blkOk_by (by kernel_rfl)) (fun _ _ _ _ _ => (pg_name (i := 5) sc_law_cells.nd rfl (by first | exact Or.inl rfl | exact Or.inr rfl))) (fun _ _ _ _ _ => pts_nil) (fun _ _ _ _ _ => (pe_op op_addG (pv 2) (pe_op op_mulG (pv 3) (pv 5))))))
  (pss_cons (ps_set (i := 6) sc_law_cells.nd rfl (Or.inl rfl) pe_dnewKN)
  (pss_cons (ps_for PassesOwn.never rfl (pi_range1 (by rfl) T.n_range (pa_cons (pv 1) pa_nil)) (pg_name (i := 5) sc_law_cells.nd rfl (by first | exact Or.inl rfl | exact Or.inr rfl)) (pss_cons (ps_setLc (i := 7) (own := [("_law_j", 8)]) (g := (gName 8)) (tt := tYes) rfl sc_law_cells.nd rfl rfl (sw_true rfl rfl rfl (by decide +kernel)) (pi_range1 (by rfl) T.n_range (pa_cons pe_int pa_nil)) (blkOk_by (by kernel_rfl)) (fun _ _ _ _ _ => (pg_name (i := 8) sc_law_cells.nd rfl (by first | exact Or.inl rfl | exact Or.inr rfl))) (fun _ _ _ _ _ => pts_nil) (fun _ _ _ _ _ => (pe_ixG (hu_of hr) (pv 4) (pe_cal c_law_draw hr rfl (pa_cons (pv 0) (pa_cons (pv 1) pa_nil))) (fun _ _ => rfl))))
  (pss_cons (ps_set (i := 9) sc_law_cells.nd rfl (Or.inl rfl) (pe_lstN (pa_cons (pe_tupN (pa_cons pe_str (pa_cons (pe_cal c_law_draw hr rfl (pa_cons (pv 0) (pa_cons pe_int pa_nil))) pa_nil))) (pa_cons (pe_tupN (pa_cons pe_str (pa_cons (pe_ixG (hu_of hr) (pv 7) pe_int (fun _ _ => rfl)) pa_nil))) (pa_cons (pe_tupN (pa_cons pe_str (pa_cons (pe_ixG (hu_of hr) (pv 7) pe_int (fun _ _ => rfl)) (pa_cons (pe_ixG (hu_of hr) (pv 7) pe_int (fun _ _ => rfl)) pa_nil)))) (pa_cons (pe_tupN (pa_cons pe_str (pa_cons (pe_ixG (hu_of hr) (pv 7) pe_int (fun _ _ => rfl)) pa_nil))) (pa_cons (pe_tupN (pa_cons pe_str pa_nil)) pa_nil)))))))
  (pss_cons (ps_set (i := 9) sc_law_cells.nd rfl (Or.inl rfl) (pe_op op_addG (pv 9) (pe_lstN (pa_cons (pe_op op_addG (pe_tupN (pa_cons pe_str pa_nil)) (pe_callTy call_tupleG (by rfl) T.n_tuple (by decide +kernel) (pa_cons (pv 7) pa_nil))) (pa_cons (pe_tupN (pa_cons pe_str (pa_cons (pe_ixG (hu_of hr) (pv 7) pe_int (fun _ _ => rfl)) (pa_cons (pe_ixG (hu_of hr) (pv 7) pe_int (fun _ _ => rfl)) pa_nil)))) (pa_cons (pe_tupN (pa_cons pe_str (pa_cons pe_str (pa_cons (pe_callTy call_tupleG (by rfl) T.n_tuple (by decide +kernel) (pa_cons (pe_slice sl_any (pv 7) po_none (po_some (pe_cal c_law_draw hr rfl (pa_cons (pv 0) (pa_cons pe_int pa_nil))))) pa_nil)) pa_nil)))) pa_nil))))))
  (pss_cons (ps_set (i := 9) sc_law_cells.nd rfl (Or.inl rfl) (pe_op op_addG (pv 9) (pe_lstN (pa_cons (pe_tupN (pa_cons pe_str (pa_cons pe_str pa_nil))) (pa_cons (pe_tupN (pa_cons pe_str (pa_cons (pe_ixG (hu_of hr) (pv 7) pe_int (fun _ _ => rfl)) (pa_cons (pe_ixG (hu_of hr) (pv 7) pe_int (fun _ _ => rfl)) pa_nil)))) pa_nil)))))
  (pss_one (ps_asg (pe_ixG (hu_of hr) (pv 9) (pe_cal c_law_draw hr rfl (pa_cons (pv 0) (pa_cons pe_int pa_nil))) (fun _ _ => rfl)) (pg_sub (pv 6) (pe_ixG (hu_of hr) (pv 4) (pe_ifExp (pt_cmpR (op_eqG (hu2_of hr)) (pv 5) pe_int (nomark _)) (pe_cal c_law_draw hr rfl (pa_cons (pv 0) (pa_cons (pv 1) pa_nil))) (pv 5)) (fun _ _ => rfl)) (set_any (hu_of hr))))))))))
  (pss_cons (ps_for PassesOwn.never rfl (pi_seq (pv 4)) (pg_name (i := 10) sc_law_cells.nd rfl (by first | exact Or.inl rfl | exact Or.inr rfl)) (pss_one (ps_expr (pe_dsetdN (pv 6) (pv 10) (pe_tupN (pa_cons pe_str (pa_cons (pv 10) pa_nil))) ⟨rfl, rfl, rfl, rfl⟩))))
  (pss_one (ps_ret (pe_tupN (pa_cons (pv 6) (pa_cons (pe_lc (own := [("_law_number", 10)]) (g := (gName 10)) (tt := (tTest (tOp (rEqG K) (tCall s_law_draw [] E0 (tCons (tVar 0) (tCons (tC (.int 4)) tNil))) (tC (.int 0))))) rfl sc_law_cells.nd (pi_seq (pv 4)) (blkOk_by (by kernel_rfl)) (fun _ _ _ _ _ => (pg_name (i := 10) sc_law_cells.nd rfl (by first | exact Or.inl rfl | exact Or.inr rfl))) (fun _ _ _ _ _ => (pts_one (pt_cmpR (op_eqG (hu2_of hr)) (pe_cal c_law_draw hr rfl (pa_cons (pv 0) (pa_cons pe_int pa_nil))) pe_int (nomark _)))) (fun _ _ _ _ _ => (pv 10))) pa_nil)))))))))))
abbrev st_law_paper_right : Stmt := topS 15
theorem sc_law_paper_right : FnScope ["_law_cells_here", "_law_roots", "_law_thing", "_law_kept", "_law_ways", "_law_one", "_law_number", "_law_way_here", "_law_k"] ["_law_cells_here", "_law_roots", "_law_thing"] (defScope st_law_paper_right) := ⟨rfl, rfl, rfl, by decide +kernel, rfl, by decide +kernel, by decide +kernel⟩
theorem mk_law_paper_right {P : Program} {w : World} {K : PySem.W.Frag} {mg : Str → Option Value} {base : Heap} (T : TX w K mg) {j : Nat} {sp : Sp} {s_law_named : Sp} (c_law_named : Cal P w K mg base j "_law_named" s_law_named)
    (pure_ : PureOk 3 sp (t_law_paper_right K w s_law_named) 9) : Cal P w K mg base (j + 1) "_law_paper_right" sp := by
  obtain ⟨fd, F⟩ := T.d_law_paper_right
  refine cal_mk F T.f_law_paper_right sc_law_paper_right (F.bindsN fun _ _ _ _ _ _ us hl => match us, hl with | [_, _, _], _ => rfl) pure_.len fun cdv A outer s H vs Q E hr h => ?_
  refine ⟨t_law_paper_right K w s_law_named, PSs.nox ?_, pure_.run vs H Q E h⟩
  exact (pss_cons (ps_if (PW.pt (pw_or (pt_not (pt_tru (pe_callB call_isiG (by rfl) T.n_isinstance (by decide +kernel) (pa_cons (pv 2) (pa_cons (pe_bltn (v := .ty "tuple") rfl T.n_tuple (by decide +kernel) rfl) pa_nil))) (by intro _; rfl))) (pw_or (pt_cmpR (op_neG (hu2_of hr)) (pe_callB call_lenG (by rfl) T.n_len (by decide +kernel) (pa_cons (pv 2) pa_nil)) pe_int (nomark _)) (pw_or (pt_not (pt_tru (pe_callB call_isiG (by rfl) T.n_isinstance (by decide +kernel) (pa_cons (pe_ixG (hu_of hr) (pv 2) pe_int (fun _ _ => rfl)) (pa_cons (pe_bltn (v := .ty "tuple") rfl T.n_tuple (by decide +kernel) rfl) pa_nil))) (by intro _; rfl))) (pw_or1 (pt_not (pt_tru (pe_callB call_isiG (by rfl) T.n_isinstance (by decide +kernel) (pa_cons (pe_ixG (hu_of hr) (pv 2) pe_int (fun _ _ => rfl)) (pa_cons (pe_bltn (v := .ty "tuple") rfl T.n_tuple (by decide +kernel) rfl) pa_nil))) (by intro _; rfl)))))))) (pss_one (ps_ret pe_bl)) pss_nil)
  (pss_cons (ps_asg (pv 2) (pg_tup rfl (pgs_cons (pg_name (i := 3) sc_law_paper_right.nd rfl (by first | exact Or.inl rfl | exact Or.inr rfl)) (pgs_cons (pg_name (i := 4) sc_law_paper_right.nd rfl (by first | exact Or.inl rfl | exact Or.inr rfl)) pgs_nil))))
  (pss_cons (ps_if (PW.pt (pw_or (pt_cmpR (op_neG (hu2_of hr)) (pe_callB call_lenG (by rfl) T.n_len (by decide +kernel) (pa_cons (pv 4) pa_nil)) (pe_callB call_lenG (by rfl) T.n_len (by decide +kernel) (pa_cons (pv 3) pa_nil)) (nomark _)) (pw_or1 (pt_cmpR (op_neG (hu2_of hr)) (pe_lc (own := [("_law_one", 5)]) (g := (gName 5)) (tt := (tOr (tNot (tTru K (tCB (rIsiG K) (tCons (tVar 5) (tCons (tC (.ty "int")) tNil))))) (tTru K (tCB (rIsiG K) (tCons (tVar 5) (tCons (tC (.ty "bool")) tNil)))))) rfl sc_law_paper_right.nd (pi_seq (pv 3)) (blkOk_by (by kernel_rfl)) (fun _ _ _ _ _ => (pg_name (i := 5) sc_law_paper_right.nd rfl (by first | exact Or.inl rfl | exact Or.inr rfl))) (fun _ _ _ _ _ => (pts_one (PW.pt (pw_or (pt_not (pt_tru (pe_callB call_isiG (by rfl) T.n_isinstance (by decide +kernel) (pa_cons (pv 5) (pa_cons (pe_bltn (v := .ty "int") rfl T.n_int (by decide +kernel) rfl) pa_nil))) (by intro _; rfl))) (pw_or1 (pt_tru (pe_callB call_isiG (by rfl) T.n_isinstance (by decide +kernel) (pa_cons (pv 5) (pa_cons (pe_bltn (v := .ty "bool") rfl T.n_bool (by decide +kernel) rfl) pa_nil))) (by intro _; rfl))))))) (fun _ _ _ _ _ => (pv 5))) (pe_lstN pa_nil) (nomark _))))) (pss_one (ps_ret pe_bl)) pss_nil)
  (pss_cons (ps_if (PW.pt (pw_or (pt_cmpR (op_neG (hu2_of hr)) (pe_lc (own := [("_law_one", 5)]) (g := (gName 5)) (tt := (tTest (tOp (rInG K w true) (tVar 5) (tVar 0)))) rfl sc_law_paper_right.nd (pi_seq (pv 3)) (blkOk_by (by kernel_rfl)) (fun _ _ _ _ _ => (pg_name (i := 5) sc_law_paper_right.nd rfl (by first | exact Or.inl rfl | exact Or.inr rfl))) (fun _ _ _ _ _ => (pts_one (pt_cmpR (op_notInG (hu_of hr)) (pv 5) (pv 0) (by rfl)))) (fun _ _ _ _ _ => (pv 5))) (pe_lstN pa_nil) (nomark _)) (pw_or1 (pt_cmpR (op_neG (hu2_of hr)) (pe_lc (own := [("_law_one", 5)]) (g := (gName 5)) (tt := (tTest (tOp (rInG K w true) (tVar 5) (tVar 3)))) rfl sc_law_paper_right.nd (pi_seq (pv 1)) (blkOk_by (by kernel_rfl)) (fun _ _ _ _ _ => (pg_name (i := 5) sc_law_paper_right.nd rfl (by first | exact Or.inl rfl | exact Or.inr rfl))) (fun _ _ _ _ _ => (pts_one (pt_cmpR (op_notInG (hu_of hr)) (pv 5) (pv 3) (by rfl)))) (fun _ _ _ _ _ => (pv 5))) (pe_lstN pa_nil) (nomark _))))) (pss_one (ps_ret pe_bl)) pss_nil)
  (pss_cons (ps_if (pt_cmpR (op_neG (hu2_of hr)) (pe_callTy (call_listG rfl) (by rfl) T.n_list (by decide +kernel) (pa_cons (pv 3) pa_nil)) (pe_callB (cr_sortG rfl) (by rfl) T.n_sorted (by decide +kernel) (pa_cons (pe_callTy (cr_setTI rfl) (by rfl) T.n_set (by decide +kernel) (pa_cons (pv 3) pa_nil)) pa_nil)) (nomark _)) (pss_one (ps_ret pe_bl)) pss_nil)
  (pss_cons (ps_for PassesOwn.never rfl (pi_zipM (by rfl) T.n_zip (pa_cons (pv 3) (pa_cons (pv 4) pa_nil))) (pg_tup rfl (pgs_cons (pg_name (i := 6) sc_law_paper_right.nd rfl (by first | exact Or.inl rfl | exact Or.inr rfl)) (pgs_cons (pg_name (i := 7) sc_law_paper_right.nd rfl (by first | exact Or.inl rfl | exact Or.inr rfl)) pgs_nil))) (pss_cons (ps_if (pt_cmpR (op_neG (hu2_of hr)) (pe_lc (own := [("_law_one", 5)]) (g := (gName 5)) (tt := (tTest (tOp (rInG K w true) (tVar 5) (tVar 3)))) rfl sc_law_paper_right.nd (pi_seq (pe_cal c_law_named hr rfl (pa_cons (pe_ixG (hu_of hr) (pv 0) (pv 6) (fun _ _ => rfl)) pa_nil))) (blkOk_by (by kernel_rfl)) (fun _ _ _ _ _ => (pg_name (i := 5) sc_law_paper_right.nd rfl (by first | exact Or.inl rfl | exact Or.inr rfl))) (fun _ _ _ _ _ => (pts_one (pt_cmpR (op_notInG (hu_of hr)) (pv 5) (pv 3) (by rfl)))) (fun _ _ _ _ _ => (pv 5))) (pe_lstN pa_nil) (nomark _)) (pss_one (ps_ret pe_bl)) pss_nil)
  (pss_cons (ps_if (PW.pt (pw_or (pt_not (pt_tru (pe_callB call_isiG (by rfl) T.n_isinstance (by decide +kernel) (pa_cons (pv 7) (pa_cons (pe_bltn (v := .ty "tuple") rfl T.n_tuple (by decide +kernel) rfl) pa_nil))) (by intro _; rfl))) (pw_or (pt_cmpR (op_eqT (hu2_of hr)) (pv 7) (pe_tupN pa_nil) (nomark _)) (pw_or1 (pt_cmpR (op_neG (hu2_of hr)) (pe_lc (own := [("_law_one", 5)]) (g := (gName 5)) (tt := (tOr (tNot (tTru K (tCB (rIsiG K) (tCons (tVar 5) (tCons (tC (.ty "int")) tNil))))) (tTru K (tCB (rIsiG K) (tCons (tVar 5) (tCons (tC (.ty "bool")) tNil)))))) rfl sc_law_paper_right.nd (pi_seq (pv 7)) (blkOk_by (by kernel_rfl)) (fun _ _ _ _ _ => (pg_name (i := 5) sc_law_paper_right.nd rfl (by first | exact Or.inl rfl | exact Or.inr rfl))) (fun _ _ _ _ _ => (pts_one (PW.pt (pw_or (pt_not (pt_tru (pe_callB call_isiG (by rfl) T.n_isinstance (by decide +kernel) (pa_cons (pv 5) (pa_cons (pe_bltn (v := .ty "int") rfl T.n_int (by decide +kernel) rfl) pa_nil))) (by intro _; rfl))) (pw_or1 (pt_tru (pe_callB call_isiG (by rfl) T.n_isinstance (by decide +kernel) (pa_cons (pv 5) (pa_cons (pe_bltn (v := .ty "bool") rfl T.n_bool (by decide +kernel) rfl) pa_nil))) (by intro _; rfl))))))) (fun _ _ _ _ _ => (pv 5))) (pe_lstN pa_nil) (nomark _)))))) (pss_one (ps_ret pe_bl)) pss_nil)
  (pss_cons (ps_if (PW.pt (pw_or (pt_cmpR (op_notInG (hu_of hr)) (pe_ixG (hu_of hr) (pv 7) pe_int (fun _ _ => rfl)) (pv 1) (by rfl)) (pw_or (pt_cmpR (op_neG (hu2_of hr)) (pe_ixG (hu_of hr) (pv 7) (pe_un un_neg pe_int) (fun _ _ => rfl)) (pv 6) (nomark _)) (pw_or1 (pt_cmpR (op_neG (hu2_of hr)) (pe_lc (own := [("_law_one", 5)]) (g := (gName 5)) (tt := (tTest (tOp (rInG K w true) (tVar 5) (tVar 0)))) rfl sc_law_paper_right.nd (pi_seq (pv 7)) (blkOk_by (by kernel_rfl)) (fun _ _ _ _ _ => (pg_name (i := 5) sc_law_paper_right.nd rfl (by first | exact Or.inl rfl | exact Or.inr rfl))) (fun _ _ _ _ _ => (pts_one (pt_cmpR (op_notInG (hu_of hr)) (pv 5) (pv 0) (by rfl)))) (fun _ _ _ _ _ => (pv 5))) (pe_lstN pa_nil) (nomark _)))))) (pss_one (ps_ret pe_bl)) pss_nil)
  (pss_one (ps_if (pt_cmpR (op_inG (hu_of hr)) pe_bl (pe_lc (own := [("_law_k", 8)]) (g := (gName 8)) (tt := tYes) rfl sc_law_paper_right.nd (pi_range1 (by rfl) T.n_range (pa_cons (pe_op op_sub (pe_callB call_lenG (by rfl) T.n_len (by decide +kernel) (pa_cons (pv 7) pa_nil)) pe_int) pa_nil)) (blkOk_by (by kernel_rfl)) (fun _ _ _ _ _ => (pg_name (i := 8) sc_law_paper_right.nd rfl (by first | exact Or.inl rfl | exact Or.inr rfl))) (fun _ _ _ _ _ => pts_nil) (fun _ _ _ _ _ => (pe_cmpR (op_inG (hu_of hr)) (pe_ixG (hu_of hr) (pv 7) (pe_op op_addG (pv 8) pe_int) (fun _ _ => rfl)) (pe_cal c_law_named hr rfl (pa_cons (pe_ixG (hu_of hr) (pv 0) (pe_ixG (hu_of hr) (pv 7) (pv 8) (fun _ _ => rfl)) (fun _ _ => rfl)) pa_nil)) (by rfl)))) (by rfl)) (pss_one (ps_ret pe_bl)) pss_nil))))))
  (pss_one (ps_ret pe_bl))))))))
abbrev st_law_way : Stmt := topS 16
theorem sc_law_way : FnScope ["_law_cells_here", "_law_roots", "_law_number", "_law_ways", "_law_root", "_law_again", "_law_one", "_law_other"] ["_law_cells_here", "_law_roots", "_law_number"] (defScope st_law_way) := ⟨rfl, rfl, rfl, by decide +kernel, rfl, by decide +kernel, by decide +kernel⟩
theorem mk_law_way {P : Program} {w : World} {K : PySem.W.Frag} {mg : Str → Option Value} {base : Heap} (T : TX w K mg) {j : Nat} {sp : Sp} {s_law_named : Sp} (c_law_named : Cal P w K mg base j "_law_named" s_law_named)
    (pure_ : PureOk 3 sp (t_law_way K w s_law_named) 8) : Cal P w K mg base (j + 1) "_law_way" sp := by
  obtain ⟨fd, F⟩ := T.d_law_way
  refine cal_mk F T.f_law_way sc_law_way (F.bindsN fun _ _ _ _ _ _ us hl => match us, hl with | [_, _, _], _ => rfl) pure_.len fun cdv A outer s H vs Q E hr h => ?_
  refine ⟨t_law_way K w s_law_named, PSs.nox ?_, pure_.run vs H Q E h⟩
  exact (pss_cons (ps_set (i := 3) sc_law_way.nd rfl (Or.inl rfl) (pe_callTy (call_dictPG rfl) (by rfl) T.n_dict (by decide +kernel) (pa_cons (pe_lc (own := [("_law_root", 4)]) (g := (gName 4)) (tt := tYes) rfl sc_law_way.nd (pi_seq (pv 1)) (blkOk_by (by kernel_rfl)) (fun _ _ _ _ _ => (pg_name (i := 4) sc_law_way.nd rfl (by first | exact Or.inl rfl | exact Or.inr rfl))) (fun _ _ _ _ _ => pts_nil) (fun _ _ _ _ _ => (pe_tupN (pa_cons (pv 4) (pa_cons (pe_tupN (pa_cons (pv 4) pa_nil)) pa_nil))))) pa_nil)))
  (pss_cons (ps_for PassesOwn.never rfl (pi_range1 (by rfl) T.n_range (pa_cons (pe_callB call_lenG (by rfl) T.n_len (by decide +kernel) (pa_cons (pv 0) pa_nil)) pa_nil)) (pg_name (i := 5) sc_law_way.nd rfl (by first | exact Or.inl rfl | exact Or.inr rfl)) (pss_one (ps_for PassesOwn.never rfl (pi_seq (pe_callB (cr_sortG rfl) (by rfl) T.n_sorted (by decide +kernel) (pa_cons (pv 3) pa_nil))) (pg_name (i := 6) sc_law_way.nd rfl (by first | exact Or.inl rfl | exact Or.inr rfl)) (pss_one (ps_for PassesOwn.never rfl (pi_seq (pe_cal c_law_named hr rfl (pa_cons (pe_ixG (hu_of hr) (pv 0) (pv 6) (fun _ _ => rfl)) pa_nil))) (pg_name (i := 7) sc_law_way.nd rfl (by first | exact Or.inl rfl | exact Or.inr rfl)) (pss_one (ps_if (pt_cmpR (op_notInG (hu_of hr)) (pv 7) (pv 3) (by rfl)) (pss_one (ps_asg (pe_op op_addG (pe_ixG (hu_of hr) (pv 3) (pv 6) (fun _ _ => rfl)) (pe_tupN (pa_cons (pv 7) pa_nil))) (pg_sub (pv 3) (pv 7) (set_any (hu_of hr))))) pss_nil)))))))
  (pss_one (ps_ret (pe_ixG (hu_of hr) (pv 3) (pv 2) (fun _ _ => rfl))))))
abbrev st_law_bent_row : Stmt := topS 17
theorem sc_law_bent_row : FnScope ["_law_pen_here", "_law_row", "_law_numbers", "_law_at", "_law_other", "_law_some"] ["_law_pen_here", "_law_row", "_law_numbers"] (defScope st_law_bent_row) := ⟨rfl, rfl, rfl, by decide +kernel, rfl, by decide +kernel, by decide +kernel⟩
theorem mk_law_bent_row {P : Program} {w : World} {K : PySem.W.Frag} {mg : Str → Option Value} {base : Heap} (T : TX w K mg) {j : Nat} {sp : Sp} {s_law_draw : Sp} (c_law_draw : Cal P w K mg base j "_law_draw" s_law_draw)
    (pure_ : PureOk 3 sp (t_law_bent_row K w s_law_draw) 6) : Cal P w K mg base (j + 1) "_law_bent_row" sp := by
  obtain ⟨fd, F⟩ := T.d_law_bent_row
  refine cal_mk F T.f_law_bent_row sc_law_bent_row (F.bindsN fun _ _ _ _ _ _ us hl => match us, hl with | [_, _, _], _ => rfl) pure_.len fun cdv A outer s H vs Q E hr h => ?_
  refine ⟨t_law_bent_row K w s_law_draw, PSs.nox ?_, pure_.run vs H Q E h⟩
  exact (pss_cons (ps_if (PW.pt (pw_or (pt_not (pt_tru (pe_callB call_isiG (by rfl) T.n_isinstance (by decide +kernel) (pa_cons (pv 1) (pa_cons (pe_bltn (v := .ty "tuple") rfl T.n_tuple (by decide +kernel) rfl) pa_nil))) (by intro _; rfl))) (pw_or1 (pt_cmpR (op_eqT (hu2_of hr)) (pv 1) (pe_tupN pa_nil) (nomark _))))) (pss_one (ps_ret (pe_ixG (hu_of hr) (pe_lstN (pa_cons (pe_tupN pa_nil) (pa_cons (pe_tupN (pa_cons (pe_ixG (hu_of hr) (pv 2) pe_int (fun _ _ => rfl)) pa_nil)) (pa_cons (pe_lstN pa_nil) (pa_cons pe_non pa_nil))))) (pe_cal c_law_draw hr rfl (pa_cons (pv 0) (pa_cons pe_int pa_nil))) (fun _ _ => rfl)))) pss_nil)
  (pss_cons (ps_set (i := 3) sc_law_bent_row.nd rfl (Or.inl rfl) (pe_cal c_law_draw hr rfl (pa_cons (pv 0) (pa_cons (pe_callB call_lenG (by rfl) T.n_len (by decide +kernel) (pa_cons (pv 1) pa_nil)) pa_nil))))
  (pss_cons (ps_set (i := 4) sc_law_bent_row.nd rfl (Or.inl rfl) (pe_ixG (hu_of hr) (pv 2) (pe_cal c_law_draw hr rfl (pa_cons (pv 0) (pa_cons (pe_callB call_lenG (by rfl) T.n_len (by decide +kernel) (pa_cons (pv 2) pa_nil)) pa_nil))) (fun _ _ => rfl)))
  (pss_cons (ps_set (i := 5) sc_law_bent_row.nd rfl (Or.inl rfl) (pe_lstN (pa_cons (pe_op op_addG (pe_slice sl_any (pv 1) po_none (po_some (pv 3))) (pe_slice sl_any (pv 1) (po_some (pe_op op_addG (pv 3) pe_int)) po_none)) (pa_cons (pe_op op_addG (pe_slice sl_any (pv 1) po_none (po_some (pe_op op_addG (pv 3) pe_int))) (pe_slice sl_any (pv 1) (po_some (pv 3)) po_none)) (pa_cons (pe_op op_addG (pe_op op_addG (pe_slice sl_any (pv 1) po_none (po_some (pv 3))) (pe_tupN (pa_cons (pv 4) pa_nil))) (pe_slice sl_any (pv 1) (po_some (pe_op op_addG (pv 3) pe_int)) po_none)) (pa_cons (pe_revT (pv 1)) (pa_cons (pe_callTy (call_listG rfl) (by rfl) T.n_list (by decide +kernel) (pa_cons (pv 1) pa_nil)) (pa_cons (pe_slice sl_any (pv 1) po_none (po_some (pv 3))) pa_nil))))))))
  (pss_cons (ps_set (i := 5) sc_law_bent_row.nd rfl (Or.inl rfl) (pe_op op_addG (pv 5) (pe_lstN (pa_cons (pe_op op_addG (pv 1) (pe_tupN (pa_cons (pv 4) pa_nil))) (pa_cons (pe_op op_addG (pe_tupN (pa_cons (pv 4) pa_nil)) (pv 1)) (pa_cons (pe_op op_addG (pe_op op_addG (pe_slice sl_any (pv 1) po_none (po_some (pv 3))) (pe_tupN (pa_cons pe_bl pa_nil))) (pe_slice sl_any (pv 1) (po_some (pe_op op_addG (pv 3) pe_int)) po_none)) (pa_cons (pe_op op_addG (pe_op op_addG (pe_slice sl_any (pv 1) po_none (po_some (pv 3))) (pe_tupN (pa_cons pe_non pa_nil))) (pe_slice sl_any (pv 1) (po_some (pe_op op_addG (pv 3) pe_int)) po_none)) pa_nil)))))))
  (pss_cons (ps_set (i := 5) sc_law_bent_row.nd rfl (Or.inl rfl) (pe_op op_addG (pv 5) (pe_lstN (pa_cons (pe_op op_addG (pe_op op_addG (pe_slice sl_any (pv 1) po_none (po_some (pv 3))) (pe_tupN (pa_cons (pe_op op_addG (pv 4) pe_int) pa_nil))) (pe_slice sl_any (pv 1) (po_some (pe_op op_addG (pv 3) pe_int)) po_none)) (pa_cons pe_non (pa_cons (pe_tupN pa_nil) (pa_cons (pv 1) pa_nil)))))))
  (pss_one (ps_ret (pe_ixG (hu_of hr) (pv 5) (pe_cal c_law_draw hr rfl (pa_cons (pv 0) (pa_cons pe_int pa_nil))) (fun _ _ => rfl))))))))))
abbrev st_law_bent_paper : Stmt := topS 18
theorem sc_law_bent_paper : FnScope ["_law_pen_here", "_law_paper", "_law_numbers", "_law_turned", "_law_at"] ["_law_pen_here", "_law_paper", "_law_numbers"] (defScope st_law_bent_paper) := ⟨rfl, rfl, rfl, by decide +kernel, rfl, by decide +kernel, by decide +kernel⟩
theorem mk_law_bent_paper {P : Program} {w : World} {K : PySem.W.Frag} {mg : Str → Option Value} {base : Heap} (T : TX w K mg) {j : Nat} {sp : Sp} {s_law_draw s_law_bent_row : Sp} (c_law_draw : Cal P w K mg base j "_law_draw" s_law_draw) (c_law_bent_row : Cal P w K mg base j "_law_bent_row" s_law_bent_row)
    (pure_ : PureOk 3 sp (t_law_bent_paper K w s_law_draw s_law_bent_row) 5) : Cal P w K mg base (j + 1) "_law_bent_paper" sp := by
  obtain ⟨fd, F⟩ := T.d_law_bent_paper
  refine cal_mk F T.f_law_bent_paper sc_law_bent_paper (F.bindsN fun _ _ _ _ _ _ us hl => match us, hl with | [_, _, _], _ => rfl) pure_.len fun cdv A outer s H vs Q E hr h => ?_
  refine ⟨t_law_bent_paper K w s_law_draw s_law_bent_row, PSs.nox ?_, pure_.run vs H Q E h⟩
  exact (pss_cons (ps_if (PW.pt (pw_or (pt_not (pt_tru (pe_callB call_isiG (by rfl) T.n_isinstance (by decide +kernel) (pa_cons (pv 1) (pa_cons (pe_bltn (v := .ty "tuple") rfl T.n_tuple (by decide +kernel) rfl) pa_nil))) (by intro _; rfl))) (pw_or (pt_cmpR (op_neG (hu2_of hr)) (pe_callB call_lenG (by rfl) T.n_len (by decide +kernel) (pa_cons (pv 1) pa_nil)) pe_int (nomark _)) (pw_or (pt_not (pt_tru (pe_callB call_isiG (by rfl) T.n_isinstance (by decide +kernel) (pa_cons (pe_ixG (hu_of hr) (pv 1) pe_int (fun _ _ => rfl)) (pa_cons (pe_bltn (v := .ty "tuple") rfl T.n_tuple (by decide +kernel) rfl) pa_nil))) (by intro _; rfl))) (pw_or1 (pt_cmpR (op_eqG (hu2_of hr)) (pe_cal c_law_draw hr rfl (pa_cons (pv 0) (pa_cons pe_int pa_nil))) pe_int (nomark _))))))) (pss_cons (ps_set (i := 3) sc_law_bent_paper.nd rfl (Or.inl rfl) (pe_ifExp (pt_tru (pe_callB call_isiG (by rfl) T.n_isinstance (by decide +kernel) (pa_cons (pv 1) (pa_cons (pe_bltn (v := .ty "tuple") rfl T.n_tuple (by decide +kernel) rfl) pa_nil))) (by intro _; rfl)) (pe_callTy (call_listG rfl) (by rfl) T.n_list (by decide +kernel) (pa_cons (pv 1) pa_nil)) (pe_lstN (pa_cons (pv 1) pa_nil))))
  (pss_one (ps_ret (pe_ixG (hu_of hr) (pe_lstN (pa_cons (pv 3) (pa_cons (pe_tupN pa_nil) (pa_cons pe_non (pa_cons (pe_tupN (pa_cons (pv 1) pa_nil)) (pa_cons (pe_lstN (pa_cons (pv 1) pa_nil)) (pa_cons (pe_tupN (pa_cons (pe_tupN pa_nil) (pa_cons (pe_tupN pa_nil) pa_nil))) (pa_cons pe_int pa_nil)))))))) (pe_cal c_law_draw hr rfl (pa_cons (pv 0) (pa_cons pe_int pa_nil))) (fun _ _ => rfl))))) pss_nil)
  (pss_cons (ps_if (pt_cmpR (op_eqG (hu2_of hr)) (pe_cal c_law_draw hr rfl (pa_cons (pv 0) (pa_cons pe_int pa_nil))) pe_int (nomark _)) (pss_one (ps_ret (pe_tupN (pa_cons (pe_cal c_law_bent_row hr rfl (pa_cons (pv 0) (pa_cons (pe_ixG (hu_of hr) (pv 1) pe_int (fun _ _ => rfl)) (pa_cons (pv 2) pa_nil)))) (pa_cons (pe_ixG (hu_of hr) (pv 1) pe_int (fun _ _ => rfl)) pa_nil))))) pss_nil)
  (pss_cons (ps_if (PW.pt (pw_or (pt_cmpR (op_eqT (hu2_of hr)) (pe_ixG (hu_of hr) (pv 1) pe_int (fun _ _ => rfl)) (pe_tupN pa_nil) (nomark _)) (pw_or1 (pt_cmpR (op_eqG (hu2_of hr)) (pe_cal c_law_draw hr rfl (pa_cons (pv 0) (pa_cons pe_int pa_nil))) pe_int (nomark _))))) (pss_one (ps_ret (pe_tupN (pa_cons (pe_ixG (hu_of hr) (pv 1) pe_int (fun _ _ => rfl)) (pa_cons (pe_cal c_law_bent_row hr rfl (pa_cons (pv 0) (pa_cons (pe_ixG (hu_of hr) (pv 1) pe_int (fun _ _ => rfl)) (pa_cons (pv 2) pa_nil)))) pa_nil))))) pss_nil)
  (pss_cons (ps_set (i := 4) sc_law_bent_paper.nd rfl (Or.inl rfl) (pe_cal c_law_draw hr rfl (pa_cons (pv 0) (pa_cons (pe_callB call_lenG (by rfl) T.n_len (by decide +kernel) (pa_cons (pe_ixG (hu_of hr) (pv 1) pe_int (fun _ _ => rfl)) pa_nil)) pa_nil))))
  (pss_one (ps_ret (pe_tupN (pa_cons (pe_ixG (hu_of hr) (pv 1) pe_int (fun _ _ => rfl)) (pa_cons (pe_op op_addG (pe_op op_addG (pe_slice sl_any (pe_ixG (hu_of hr) (pv 1) pe_int (fun _ _ => rfl)) po_none (po_some (pv 4))) (pe_tupN (pa_cons (pe_cal c_law_bent_row hr rfl (pa_cons (pv 0) (pa_cons (pe_ixG (hu_of hr) (pe_ixG (hu_of hr) (pv 1) pe_int (fun _ _ => rfl)) (pv 4) (fun _ _ => rfl)) (pa_cons (pv 2) pa_nil)))) pa_nil))) (pe_slice sl_any (pe_ixG (hu_of hr) (pv 1) pe_int (fun _ _ => rfl)) (po_some (pe_op op_addG (pv 4) pe_int)) po_none)) pa_nil)))))))))
abbrev st_law : Stmt := topS 19
theorem sc_law : FnScope ["_law_script", "_law_pen_here", "_law_turn", "_law_cells_here", "_law_roots", "_law_numbers", "_law_kept", "_law_paper", "_law_number", "_law_handed", "_law_once", "_law_thing", "_law_found"] ["_law_script"] (defScope st_law) := ⟨rfl, rfl, rfl, by decide +kernel, rfl, by decide +kernel, by decide +kernel⟩
theorem mkl_law {P : Program} {w : World} {K : PySem.W.Frag} {mg : Str → Option Value} {base : Heap} {fd : FuncData} (F : FunD K "law" "law" (defArgs (topS 19)) (defBody (topS 19)) (defScope (topS 19)) [] [] (He.ga K "law") fd) (T : TX w K mg) {j : Nat} {sp : Sp} {s_law_pen s_law_cells s_law_reached s_law_way s_law_bent_paper s_lets_sweep s_law_same s_law_paper_right s_law_draw : Sp} (c_law_pen : Cal P w K mg base j "_law_pen" s_law_pen) (c_law_cells : Cal P w K mg base j "_law_cells" s_law_cells) (c_law_reached : Cal P w K mg base j "_law_reached" s_law_reached) (c_law_way : Cal P w K mg base j "_law_way" s_law_way) (c_law_bent_paper : Cal P w K mg base j "_law_bent_paper" s_law_bent_paper) (c_lets_sweep : Cal P w K mg base j "lets_sweep" s_lets_sweep) (c_law_same : CalG P w K mg base j "_law_same" s_law_same) (c_law_paper_right : Cal P w K mg base j "_law_paper_right" s_law_paper_right) (c_law_draw : Cal P w K mg base j "_law_draw" s_law_draw)
    (pure_ : PureOk 1 sp (t_law K w s_law_pen s_law_cells s_law_reached s_law_way s_law_bent_paper s_lets_sweep s_law_same s_law_paper_right s_law_draw) 13) : FnOkG P w K mg base CX0 (j + 1) (He.ga K "law") fd ["_law_script"] sp := by
  refine okG F sc_law pure_.len fun cdv A outer s H vs Q E hr hgd h => ?_
  refine ⟨t_law K w s_law_pen s_law_cells s_law_reached s_law_way s_law_bent_paper s_lets_sweep s_law_same s_law_paper_right s_law_draw, PSs.nox ?_, pure_.run vs H Q E h⟩
  exact (pss_cons (ps_set (i := 1) sc_law.nd rfl (Or.inl rfl) (pe_cal c_law_pen hr rfl (pa_cons (pv 0) pa_nil)))
  (pss_cons (ps_for PassesOwn.never rfl (pi_range1 (by rfl) T.n_range (pa_cons pe_int pa_nil)) (pg_name (i := 2) sc_law.nd rfl (by first | exact Or.inl rfl | exact Or.inr rfl)) (pss_cons (ps_asg (pe_cal c_law_cells hr rfl (pa_cons (pv 1) pa_nil)) (pg_tup rfl (pgs_cons (pg_name (i := 3) sc_law.nd rfl (by first | exact Or.inl rfl | exact Or.inr rfl)) (pgs_cons (pg_name (i := 4) sc_law.nd rfl (by first | exact Or.inl rfl | exact Or.inr rfl)) pgs_nil))))
  (pss_cons (ps_set (i := 5) sc_law.nd rfl (Or.inl rfl) (pe_callB (cr_sortG rfl) (by rfl) T.n_sorted (by decide +kernel) (pa_cons (pv 3) pa_nil)))
  (pss_cons (ps_set (i := 6) sc_law.nd rfl (Or.inl rfl) (pe_callTy call_tupleG (by rfl) T.n_tuple (by decide +kernel) (pa_cons (pe_callB (cr_sortG rfl) (by rfl) T.n_sorted (by decide +kernel) (pa_cons (pe_cal c_law_reached hr rfl (pa_cons (pv 3) (pa_cons (pv 4) pa_nil))) pa_nil)) pa_nil)))
  (pss_cons (ps_set (i := 7) sc_law.nd rfl (Or.inl rfl) (pe_tupN (pa_cons (pv 6) (pa_cons (pe_callTy call_tupleG (by rfl) T.n_tuple (by decide +kernel) (pa_cons (pe_lc (own := [("_law_number", 8)]) (g := (gName 8)) (tt := tYes) rfl sc_law.nd (pi_seq (pv 6)) (blkOk_by (by kernel_rfl)) (fun _ _ _ _ _ => (pg_name (i := 8) sc_law.nd rfl (by first | exact Or.inl rfl | exact Or.inr rfl))) (fun _ _ _ _ _ => pts_nil) (fun _ _ _ _ _ => (pe_cal c_law_way hr rfl (pa_cons (pv 3) (pa_cons (pv 4) (pa_cons (pv 8) pa_nil)))))) pa_nil)) pa_nil))))
  (pss_cons (ps_set (i := 9) sc_law.nd rfl (Or.inl rfl) (pe_tupN (pa_cons (pe_callTy call_dictG (by rfl) T.n_dict (by decide +kernel) (pa_cons (pv 3) pa_nil)) (pa_cons (pe_callTy (call_listG rfl) (by rfl) T.n_list (by decide +kernel) (pa_cons (pv 4) pa_nil)) pa_nil))))
  (pss_cons (ps_set (i := 10) sc_law.nd rfl (Or.inl rfl) (pe_cal c_law_bent_paper hr rfl (pa_cons (pv 1) (pa_cons (pv 7) (pa_cons (pv 5) pa_nil)))))
  (pss_one (ps_for PassesOwn.never rfl (pi_seq (pe_lstN (pa_cons (pv 7) (pa_cons (pv 10) (pa_cons (pe_ixG (hu_of hr) (pe_lstN (pa_cons (pe_cal c_law_bent_paper hr rfl (pa_cons (pv 1) (pa_cons (pv 10) (pa_cons (pv 5) pa_nil)))) (pa_cons (pv 10) pa_nil))) (pe_callTy call_int1 (by rfl) T.n_int (by decide +kernel) (pa_cons (pe_notT (pe_callB call_isiG (by rfl) T.n_isinstance (by decide +kernel) (pa_cons (pv 10) (pa_cons (pe_bltn (v := .ty "tuple") rfl T.n_tuple (by decide +kernel) rfl) pa_nil)))) pa_nil)) (fun _ _ => rfl)) pa_nil))))) (pg_name (i := 11) sc_law.nd rfl (by first | exact Or.inl rfl | exact Or.inr rfl)) (pss_cons (ps_set (i := 12) sc_law.nd rfl (Or.inl rfl) (pe_cal c_lets_sweep hr rfl (pa_cons (pe_ixG (hu_of hr) (pv 9) pe_int (fun _ _ => rfl)) (pa_cons (pe_ixG (hu_of hr) (pv 9) pe_int (fun _ _ => rfl)) (pa_cons (pv 11) pa_nil)))))
  (pss_one (ps_if (PW.pt (pw_or (pt_not (pt_tru (pe_calG c_law_same hr hgd rfl (pa_cons (pv 12) (pa_cons (pe_cal c_law_paper_right hr rfl (pa_cons (pv 3) (pa_cons (pv 4) (pa_cons (pv 11) pa_nil)))) pa_nil))) (by intro _; rfl))) (pw_or1 (pt_cmpR (op_neH (hu2_of hr)) (pv 9) (pe_tupN (pa_cons (pv 3) (pa_cons (pv 4) pa_nil))) (nomark _))))) (pss_one (ps_ret pe_bl)) pss_nil))))))))))))
  (pss_one (ps_ret (pe_cmpR op_isG (pe_cal c_lets_sweep hr rfl (pa_cons (pv 3) (pa_cons (pv 4) (pa_cons (pe_ixG (hu_of hr) (pe_lstN (pa_cons (pv 4) (pa_cons (pe_lstN pa_nil) (pa_cons pe_non (pa_cons pe_str (pa_cons pe_int pa_nil)))))) (pe_cal c_law_draw hr rfl (pa_cons (pv 1) (pa_cons pe_int pa_nil))) (fun _ _ => rfl)) pa_nil)))) pe_bl (nomark _))))))
theorem nv_is_alike {P : Program} {w : World} {K : PySem.W.Frag} {mg : Str → Option Value} {base : Heap} (T : TX w K mg) {sp : Sp} (no : ∀ vs H Q E, ¬ sp vs H Q E) : Cal P w K mg base 1 "is_alike" sp := by
  obtain ⟨fd, F⟩ := T.d_is_alike
  exact cal_mk F T.f_is_alike sc_is_alike (F.bindsN fun _ _ _ _ _ _ us hl => match us, hl with | [_, _], _ => rfl) (fun vs H Q E h => (no _ _ _ _ h).elim) fun cdv A outer s H vs Q E hr h => (no _ _ _ _ h).elim
theorem tx_mk {w : World} {K : PySem.W.Frag} {h h2 : Heap} {mg : Str → Option Value} (X : K.In h) (G : h.Ns mainGlobals mg) (c : He.SaysX hfa hfn hts [] hex w h2 K) : TX w K mg := by
  exact {
    d_named_by := c.t.d.def_ 0 rfl
    f_named_by := He.glo_ok X G (c.t.d.fact 0 (f := .glo "named_by") rfl)
    d_is_alike := c.t.d.def_ 1 rfl
    f_is_alike := He.glo_ok X G (c.t.d.fact 1 (f := .glo "is_alike") rfl)
    d_is_way := c.t.d.def_ 2 rfl
    f_is_way := He.glo_ok X G (c.t.d.fact 2 (f := .glo "is_way") rfl)
    d_are_kept := c.t.d.def_ 3 rfl
    f_are_kept := He.glo_ok X G (c.t.d.fact 3 (f := .glo "are_kept") rfl)
    d_lets_sweep := c.t.d.def_ 4 rfl
    f_lets_sweep := He.glo_ok X G (c.t.d.fact 4 (f := .glo "lets_sweep") rfl)
    d_law_pen := c.t.d.def_ 5 rfl
    f_law_pen := He.glo_ok X G (c.t.d.fact 5 (f := .glo "_law_pen") rfl)
    d_law_draw := c.t.d.def_ 6 rfl
    f_law_draw := He.glo_ok X G (c.t.d.fact 6 (f := .glo "_law_draw") rfl)
    d_law_named := c.t.d.def_ 7 rfl
    f_law_named := He.glo_ok X G (c.t.d.fact 7 (f := .glo "_law_named") rfl)
    d_law_reached := c.t.d.def_ 8 rfl
    f_law_reached := He.glo_ok X G (c.t.d.fact 8 (f := .glo "_law_reached") rfl)
    d_law_same := c.t.d.def_ 9 rfl
    f_law_same := He.glo_ok X G (c.t.d.fact 9 (f := .glo "_law_same") rfl)
    d_law_cells := c.t.d.def_ 10 rfl
    f_law_cells := He.glo_ok X G (c.t.d.fact 10 (f := .glo "_law_cells") rfl)
    d_law_paper_right := c.t.d.def_ 11 rfl
    f_law_paper_right := He.glo_ok X G (c.t.d.fact 11 (f := .glo "_law_paper_right") rfl)
    d_law_way := c.t.d.def_ 12 rfl
    f_law_way := He.glo_ok X G (c.t.d.fact 12 (f := .glo "_law_way") rfl)
    d_law_bent_row := c.t.d.def_ 13 rfl
    f_law_bent_row := He.glo_ok X G (c.t.d.fact 13 (f := .glo "_law_bent_row") rfl)
    d_law_bent_paper := c.t.d.def_ 14 rfl
    f_law_bent_paper := He.glo_ok X G (c.t.d.fact 14 (f := .glo "_law_bent_paper") rfl)
    d_law := c.t.d.def_ 15 rfl
    f_law := He.glo_ok X G (c.t.d.fact 15 (f := .glo "law") rfl)
    n_list := He.free_ok X G (c.t.d.fact 16 (f := .free "list") rfl)
    n_tuple := He.free_ok X G (c.t.d.fact 17 (f := .free "tuple") rfl)
    n_isinstance := He.free_ok X G (c.t.d.fact 18 (f := .free "isinstance") rfl)
    n_len := He.free_ok X G (c.t.d.fact 19 (f := .free "len") rfl)
    n_zip := He.free_ok X G (c.t.d.fact 20 (f := .free "zip") rfl)
    n_all := He.free_ok X G (c.t.d.fact 21 (f := .free "all") rfl)
    n_str := He.free_ok X G (c.t.d.fact 22 (f := .free "str") rfl)
    n_int := He.free_ok X G (c.t.d.fact 23 (f := .free "int") rfl)
    n_bool := He.free_ok X G (c.t.d.fact 24 (f := .free "bool") rfl)
    n_range := He.free_ok X G (c.t.d.fact 25 (f := .free "range") rfl)
    n_max := He.free_ok X G (c.t.d.fact 26 (f := .free "max") rfl)
    n_abs := He.free_ok X G (c.t.d.fact 27 (f := .free "abs") rfl)
    n_repr := He.free_ok X G (c.t.d.fact 28 (f := .free "repr") rfl)
    n_set := He.free_ok X G (c.t.d.fact 29 (f := .free "set") rfl)
    n_sorted := He.free_ok X G (c.t.d.fact 30 (f := .free "sorted") rfl)
    n_dict := He.free_ok X G (c.t.d.fact 31 (f := .free "dict") rfl)
  }
section
variable {P : Program} {w : World} {K : PySem.W.Frag} {mg : Str → Option Value} {base : Heap}
theorem law_ok (T : TX w K mg) {fd : FuncData} (F : FunD K "law" "law" (defArgs (topS 19)) (defBody (topS 19)) (defScope (topS 19)) [] [] (He.ga K "law") fd) : FnOkG P w K mg base CX0 5 (He.ga K "law") fd ["_law_script"] (spLaw K) := by
  have c_law_pen : Cal P w K mg base 1 "_law_pen" (spPen K) := mk_law_pen (j := 0) T  (pure_pen)
  have c_law_draw : Cal P w K mg base 1 "_law_draw" (spDraw) := mk_law_draw (j := 0) T  (pure_draw)
  have c_law_cells : Cal P w K mg base 2 "_law_cells" (spCells) := mk_law_cells (j := 1) T (c_law_draw.mono (by decide)) (pure_cells)
  have c_law_named : Cal P w K mg base 1 "_law_named" (spNamedBy) := mk_law_named (j := 0) T  (pure_lnamed)
  have c_law_reached : Cal P w K mg base 2 "_law_reached" (spReached) := mk_law_reached (j := 1) T (c_law_named.mono (by decide)) (pure_reached)
  have c_law_way : Cal P w K mg base 2 "_law_way" (spWay) := mk_law_way (j := 1) T (c_law_named.mono (by decide)) (pure_way)
  have c_law_bent_row : Cal P w K mg base 2 "_law_bent_row" (spBentRow) := mk_law_bent_row (j := 1) T (c_law_draw.mono (by decide)) (pure_bentrow)
  have c_law_bent_paper : Cal P w K mg base 3 "_law_bent_paper" (spBentPaper) := mk_law_bent_paper (j := 2) T (c_law_draw.mono (by decide)) (c_law_bent_row.mono (by decide)) (pure_bentpaper)
  have c_named_by : Cal P w K mg base 1 "named_by" (spNamedBy) := mk_named_by (j := 0) T  (pure_named_by)
  have c_are_kept : Cal P w K mg base 2 "are_kept" (spAreKept) := mk_are_kept (j := 1) T (c_named_by.mono (by decide)) (pure_arekept)
  have c_is_alike_0 : Cal P w K mg base 1 "is_alike" (spAlike 0) := nv_is_alike T (fun vs H Q E ⟨_, _, _, _, _, _, _, h, _⟩ => nomatch h)
  have c_is_alike_1 : Cal P w K mg base 2 "is_alike" (spAlike 1) := mk_is_alike (j := 1) T (c_is_alike_0.mono (by decide)) (pure_alike)
  have c_is_alike := c_is_alike_1
  have c_is_way : Cal P w K mg base 3 "is_way" (spIsWay) := mk_is_way (j := 2) T (c_is_alike.mono (by decide)) (c_named_by.mono (by decide)) (pure_isway)
  have c_lets_sweep : Cal P w K mg base 4 "lets_sweep" (spSweep) := mk_lets_sweep (j := 3) T (c_are_kept.mono (by decide)) (c_is_way.mono (by decide)) (pure_sweep)
  have c_law_same : CalG P w K mg base 1 "_law_same" (spSameB) := mk_law_same (j := 0) T  (pure_sameB)
  have c_law_paper_right : Cal P w K mg base 2 "_law_paper_right" (spSweep) := mk_law_paper_right (j := 1) T (c_law_named.mono (by decide)) (pure_lright)
  exact mkl_law (j := 4) F T (c_law_pen.mono (by decide)) (c_law_cells.mono (by decide)) (c_law_reached.mono (by decide)) (c_law_way.mono (by decide)) (c_law_bent_paper.mono (by decide)) (c_lets_sweep.mono (by decide)) (c_law_same.mono (by decide)) (c_law_paper_right.mono (by decide)) (c_law_draw.mono (by decide)) (pure_law)
end
end Lz
open PySem PySem.W PySem.Calls PyProof.Rows
theorem PySem.Challenge.cw_lazywebs_k62_bent_papers_of_sweeps_holds : PySem.Challenge.rw_lazywebs_k62_bent_papers_of_sweeps.Holds := by
  w_on; o_law
  refine HandSHeadRun.head_any (r := OpenLaw.row PySem.Challenge.rw_lazywebs_k62_bent_papers_of_sweeps) (q := view (OpenLaw.row PySem.Challenge.rw_lazywebs_k62_bent_papers_of_sweeps).prog [19]) (H := Lz.hk) (ob := Lz.ob) (M := 4000) (loose := Lz.hloose) (d := HandSHeadRun.topDef (OpenLaw.row PySem.Challenge.rw_lazywebs_k62_bent_papers_of_sweeps).prog 19) (kwd := []) Lz.ob_eq
    (by kernel_rfl) (fun s => by kernel_rfl) Lz.hrun (by kernel_rfl) (by kernel_rfl) (by kernel_rfl) (by rfl) (by first | assumption | decide +kernel) (by decide +kernel) ⟨rfl, rfl, rfl, rfl, rfl, by decide +kernel⟩ ?hw ?hc
  case hw => w_witness2
  case hc =>
    refine Lz.walk_ofG (l := PySem.Challenge.rw_lazywebs_k62_bent_papers_of_sweeps) (n := 63) (k := 5) (x := "_law_script") rfl (by decide) (by kernel_rfl) ⟨rfl, by decide, by decide⟩ ?F
    intro w mg fa h Y G hmg0
    obtain ⟨K, KX, c⟩ := Y
    have T := Lz.tx_mk KX G c
    have hmg : mg ("law" : PySem.Str) = some (.ref fa) := by
      have e : (HandSHeadRun.topDef (OpenLaw.row PySem.Challenge.rw_lazywebs_k62_bent_papers_of_sweeps).prog 19).name = ("law" : PySem.Str) := by kernel_rfl
      rw [← e]
      exact hmg0
    have e := hmg.symm.trans T.f_law
    cases e
    obtain ⟨fd, F⟩ := T.d_law
    have b := L2.FunD.bindsA (ps := ["_law_script"]) F fun _ _ _ _ _ _ us hl => match us, hl with | [_], _ => rfl
    exact ⟨K, fd, Lz.spLaw K, KX, fun s u => b s [u] rfl, fun H a ns hl _ hS => ⟨a, ns, rfl, hS, hl, fun _ => rfl⟩, fun base _ _ => Lz.law_ok T F⟩
#print axioms PySem.Challenge.cw_lazywebs_k62_bent_papers_of_sweeps_holds
