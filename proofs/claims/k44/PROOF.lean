import PyProof.Rows.All
import Wide.All
import OpenK.AllK
import Wide.FinOn
import KE.KStateDown
import Lean
import HandS.Base
import HandS.Call
import HandS.List
import HandS.Comp
import HandS.Ends
import HandS.Dict
import HandS.Iter
import HandS.Text
import HandS.More
import HandS.Exc
import HandS.Words
import HandS.WordsList
import HandS.Defaults
import HandS.Wide
import HandS.TupAny
import HandS.Flow
import HandS.Style
import HandS.Conv
import HandS.IsInst
import HandS.Head0
import HandS.Head1
import HandS.Head2
import HandS.HeadEnd
import HandS.HeadHook1
import HandS.HeadHook2
import HandS.HeadHook3
import HandS.DeepEq
import PyProof.NeData
import HandS.Codes
import HandS.Zip
import KE.KDictZip
import KE.GoesEnum
import HandS.SetFor
import HandS.Strs
import HandS.SortInts
import HandS.TupMul
import PyProof.ReprRoads
import PyProof.CallFns
import HandS.HeadHook4
import PySem.Challenge.RW_lazywebs_k44_bent_rows
set_option Elab.async false
set_option linter.all false
set_option maxRecDepth 100000
set_option maxHeartbeats 4000000
namespace Lz
open PySem PySem.Spec PyProof.Rows L2
/-! ### heaps by what is known of them -/
/-- a new object o at p -/
def New (H : Hp) (o : HO) (R : Addr → Hp → Prop) : Prop := ∀ p H', H p = none → H' p = some o → Same H H' → R p H'
/-- but for a all is as it was -/
def Chg (a : Addr) (H H' : Hp) : Prop := ∀ b o, b ≠ a → H b = some o → H' b = some o
/-- the object at a is now o -/
def Put (H : Hp) (a : Addr) (o : HO) (R : Hp → Prop) : Prop := ∀ H', H' a = some o → Chg a H H' → R H'
theorem same_upd {H : Hp} {p : Addr} {o : HO} (h : H p = none) : Same H (upd H p o) := fun b u e => by rw [upd_ne (ne_of_none e h)]; exact e
theorem New.at {H : Hp} {o : HO} {R : Addr → Hp → Prop} (h : New H o R) : ∀ p, H p = none → R p (upd H p o) := fun p hp => h p _ hp upd_same (same_upd hp)
theorem Put.at {H : Hp} {a : Addr} {o : HO} {R : Hp → Prop} (h : Put H a o R) : R (upd H a o) := h _ upd_same fun b u n e => by rw [upd_ne n]; exact e
section
variable {X : Cx}
theorem opr_imp {f : Value → Value → Sem Value} {r r' : R2} (h : OpR X f r) (i : ∀ x y H Q, r' x y H Q → r x y H Q) : OpR X f r' := fun pins s σ H x y v u Q I rx ry q => h pins s σ H x y v u Q I rx ry (i _ _ _ _ q)
theorem callr_imp {f : Value} {r r' : List V → Hp → VK → Prop} (h : CallR X f r) (i : ∀ xs H Q, r' xs H Q → r xs H Q) : CallR X f r' := fun pins s σ H xs us Q I rs q => h pins s σ H xs us Q I rs (i _ _ _ q)
theorem mtr_imp {id : String} {r r' : V → List V → Hp → VK → Prop} (h : MtR X id r) (i : ∀ x xs H Q, r' x xs H Q → r x xs H Q) : MtR X id r' := fun pins s σ H x xs v us Q I rx rs q => h pins s σ H x xs v us Q I rx rs (i _ _ _ _ q)
theorem slr_imp {r r' : V → Option Int → Option Int → Hp → VK → Prop} (h : SlR X r) (i : ∀ x lo hi H Q, r' x lo hi H Q → r x lo hi H Q) : SlR X r' := fun pins s σ H x v vl vu lo hi sl Q I rx hs pl pu q => h pins s σ H x v vl vu lo hi sl Q I rx hs pl pu (i _ _ _ _ _ q)
/-- a reading's upward closure -/
def clA (t : TA) : TA := fun σ H Q => ∃ Q0, t σ H Q0 ∧ ∀ xs H1, Q0 xs H1 → Q xs H1
def clE (t : TE) : TE := fun σ H Q => ∃ Q0, t σ H Q0 ∧ ∀ x H1, Q0 x H1 → Q x H1
theorem pa_cl {es : List Expr} {t : TA} (h : PA X es t) : PA X es (clA t) := ⟨fun pos pins s σ H Q I ⟨Q0, q, i⟩ => thn (h.run pos pins s σ H Q0 I q) fun us s' ⟨vs, H', I', r, q'⟩ => ⟨vs, H', I', r, i _ _ q'⟩⟩
theorem pe_cl {e : Expr} {t : TE} (h : PE X e t) : PE X e (clE t) := ⟨fun pins s σ H Q I ⟨Q0, q, i⟩ => thn (h.run pins s σ H Q0 I q) fun us s' ⟨vs, H', I', r, q'⟩ => ⟨vs, H', I', r, i _ _ q'⟩⟩
/-- displays -/
def tTupN (t : TA) : TE := fun σ H Q => t σ H fun xs H1 => xs.length ≤ sizeLine ∧ New H1 (.tup xs) fun p H2 => Q (.ref p) H2
def tLstN (t : TA) : TE := fun σ H Q => t σ H fun xs H1 => xs.length ≤ sizeLine ∧ New H1 (.lst xs) fun p H2 => Q (.ref p) H2
theorem pe_tupN {es : List Expr} {t : TA} {x1 pos} (h : PA X es t) : PE X (.Tuple es x1 pos) (tTupN t) :=
  ⟨fun pins s σ H Q I q => (pe_tup (pa_cl h)).run pins s σ H Q I ⟨_, q, fun xs H1 ⟨hl, n⟩ => ⟨hl, n.at⟩⟩⟩
theorem pe_lstN {es : List Expr} {t : TA} {pos} (h : PA X es t) : PE X (.List es pos) (tLstN t) :=
  ⟨fun pins s σ H Q I q => (pe_lst (pa_cl h)).run pins s σ H Q I ⟨_, q, fun xs H1 ⟨hl, n⟩ => ⟨hl, n.at⟩⟩⟩
def tDNewKN : TE := fun _ H Q => New H (.dK []) fun p H2 => Q (.ref p) H2
/-- a display of a dict: its pairs while it is empty, then filled -/
def tDispN (trs : List (TE × TE)) : TE := fun σ H Q => New H (.dK []) fun p H1 => tPairs trs σ H1 fun ps H2 => H2 p = some (.dK []) ∧ ∃ kvs : List (Key × V), ps = kvs.map (fun kv => (kV kv.1, kv.2)) ∧ kvs.length ≤ 15 ∧ Put H2 p (.dK (mergeK [] kvs)) fun H' => Q (.ref p) H'
def clP (trs : List (TE × TE)) : List (TE × TE) := trs.map fun q => (clE q.1, clE q.2)
theorem tPairs_cl : ∀ (trs : List (TE × TE)) (σ : L2.St) (H : Hp) (Q Q' : List (V × V) → Hp → Prop), tPairs trs σ H Q → (∀ ps H', Q ps H' → Q' ps H') → tPairs (clP trs) σ H Q'
  | [], σ, H, Q, Q', h, i => i _ _ h
  | (tk, tv) :: r, σ, H, Q, Q', h, i => ⟨_, h, fun x H1 h1 => ⟨_, h1, fun y H2 h2 => tPairs_cl r σ H2 _ _ h2 fun ps H3 h3 => i _ _ h3⟩⟩
theorem pe_dispN {pos : Pos} {keys : List (Option Expr)} {values : List Expr} {trs : List (TE × TE)} (h : PPs X pos keys values (clP trs)) (hall : keys.all (·.isSome) = true) (hl : keys.length = values.length) (h0 : keys ≠ [])
    (h15 : keys.length ≤ 15) : PE X (.Dict keys values pos) (tDispN trs) :=
  ⟨fun pins s σ H Q I q => (pe_disp h hall hl h0 h15).run pins s σ H Q I fun p hp => tPairs_cl trs σ _ _ _ (q p _ hp upd_same (same_upd hp)) fun ps H2 ⟨e, kvs, e1, e2, n⟩ => ⟨e, kvs, e1, e2, n.at⟩⟩
theorem pe_dnewKN {pos} : PE X (.Dict [] [] pos) tDNewKN := ⟨fun pins s σ H Q I q => pe_dnewK.run pins s σ H Q I (New.at q)⟩
end
/-! ### operators, whatever the operands are -/
section
variable {X : Cx}
def rAddG (K : PySem.W.Frag) : R2 := fun x y H Q => (rI0 fun i j => .int (i + j)) x y H Q ∨ (∃ i j, x = .str i ∧ y = .str j ∧ i.length + j.length ≤ sizeLine ∧ Q (.str (i ++ j)) H) ∨
  (∃ l b xs zs, x = .ref l ∧ y = .ref b ∧ H l = some (.lst xs) ∧ H b = some (.lst zs) ∧ xs.length + zs.length ≤ sizeLine ∧ New H (.lst (xs ++ zs)) fun p H' => Q (.ref p) H') ∨
  (∃ a b xs ys, x = .ref a ∧ y = .ref b ∧ SqT K H a xs ∧ SqT K H b ys ∧ xs.length + ys.length ≤ sizeLine ∧
    (xs = [] → Q (.ref b) H) ∧ (xs ≠ [] → ys = [] → Q (.ref a) H) ∧ (xs ≠ [] → ys ≠ [] → New H (.tup (xs ++ ys)) fun p H' => Q (.ref p) H'))
theorem op_addG : OpR X (binaryOp .Add) (rAddG X.K) := opr_imp (op_add.or (op_add_str.or (op_cat.or op_catA))) fun x y H Q h => by
  rcases h with h | h | ⟨l, b, xs, zs, e1, e2, h1, h2, hl, n⟩ | ⟨a, b, xs, ys, e1, e2, h1, h2, hl, n0, n1, n⟩
  · exact .inl h
  · exact .inr (.inl h)
  · exact .inr (.inr (.inl ⟨l, b, xs, zs, e1, e2, h1, h2, hl, n.at⟩))
  · exact .inr (.inr (.inr ⟨a, b, xs, ys, e1, e2, h1, h2, hl, n0, n1, fun x1 y1 => (n x1 y1).at⟩))
abbrev rSubG : R2 := rI0 fun i j => .int (i - j)
def rMulG : R2 := fun x y H Q => (rI CMul fun i j => .int (i * j)) x y H Q ∨ (rI CMulW fun i j => .int (i * j)) x y H Q
theorem op_mulG : OpR X (binaryOp .Mult) rMulG := op_mul.or op_mulW
abbrev rDivG : R2 := rI CDivW fun i j => .int (i / j)
abbrev rModG : R2 := rI (fun _ j => 0 < j) fun i j => .int (i % j)
abbrev rPowG : R2 := rI CPow fun i j => .int (i ^ j.toNat)
/-- values that are like themselves at once: those of hits_all, and one and the same object -/
def flatR : V → Bool
  | .ref _ => true
  | v => flatB v
theorem eqAt_sameR {A : Around} {s : Shared} {v : V} {u u' : Value} (r : RelV v u) (r' : RelV v u') (f : flatR v = true) : SeqAt.EqAt A s u u' true := by
  cases v with
  | ref a =>
    obtain rfl : u = Value.ref a := r
    obtain rfl : u' = Value.ref a := r'
    exact SeqAt.EqAt.same _
  | _ => exact eqAt_same r r' f
theorem hits_allR {κ : Type} [DecidableEq κ] {A : Around} {s : Shared} {kvs : List (κ × V)} {vb : List (κ × Value)} (rb : KV kvs vb) {ks : List (κ × V)} {va : List (κ × Value)} (ra : KV ks va) :
    (∀ p ∈ ks, valV kvs p.1 = some p.2 ∧ flatR p.2 = true) → PySem.W.KeqHits A s vb va true := by
  unfold KV at ra
  induction ra with
  | nil => intro _; exact .nil
  | @cons p q ps qs h t ih =>
    intro hp
    obtain ⟨h1, h2⟩ := h
    obtain ⟨e, f⟩ := hp p List.mem_cons_self
    have rr : RelO (some p.2) (valueAt vb p.1) := by rw [← e]; exact rb.val p.1
    obtain ⟨y, hy, ry⟩ := rr.some_of
    obtain ⟨k, v⟩ := q
    have h1' : p.1 = k := h1
    rw [h1'] at hy
    show PySem.W.KeqHits A s vb ((k, v) :: qs) (true && true)
    exact .hit hy (eqAt_sameR h2 ry f) (ih fun p' hm => hp p' (List.mem_cons_of_mem _ hm))
/-- two dicts that hold the same, whatever the order of their keys is; values flat or the same objects -/
def rSameD (b : Bool) : R2 := fun x y H Q => ∃ p q ks ls, x = .ref p ∧ y = .ref q ∧ H p = some (.dK ks) ∧ H q = some (.dK ls) ∧ ks.length = ls.length ∧ (∀ p ∈ ks, valV ls p.1 = some p.2 ∧ flatR p.2 = true) ∧ Q (.bl b) H
theorem op_eq_dictR (hu : X.A.units < cLine) : OpR X (compareOp .Eq) (rSameD true) := by
  intro pins s σ H x y v u Q I rx ry h
  obtain ⟨a, b, ks, ls, rfl, rfl, ea, eb, hlen, hp, q⟩ := h
  obtain rfl : v = Value.ref a := rx
  obtain rfl : u = Value.ref b := ry
  obtain ⟨_, ya, va, ra, da⟩ := (show ObjOk X.prog X.w H s.heap a (.dK ks) from I.hok a _ ea)
  obtain ⟨_, yb, vb, rb, db⟩ := (show ObjOk X.prog X.w H s.heap b (.dK ls) from I.hok b _ eb)
  have hl : va.length = vb.length := by rw [← ra.length, ← rb.length]; exact hlen
  exact PySem.W.keq_eq (knd := mixKind X.prog X.w) (r := true) ya yb da db hu (fun _ => hits_allR rb ra hp) (fin_bl I q (by simp [hl]))
theorem op_ne_dictR (hu : X.A.units < cLine) : OpR X (compareOp .NotEq) (rSameD false) := by
  intro pins s σ H x y v u Q I rx ry h
  obtain ⟨a, b, ks, ls, rfl, rfl, ea, eb, hlen, hp, q⟩ := h
  obtain rfl : v = Value.ref a := rx
  obtain rfl : u = Value.ref b := ry
  obtain ⟨_, ya, va, ra, da⟩ := (show ObjOk X.prog X.w H s.heap a (.dK ks) from I.hok a _ ea)
  obtain ⟨_, yb, vb, rb, db⟩ := (show ObjOk X.prog X.w H s.heap b (.dK ls) from I.hok b _ eb)
  have hl : va.length = vb.length := by rw [← ra.length, ← rb.length]; exact hlen
  exact PySem.W.keq_ne (knd := mixKind X.prog X.w) (r := true) ya yb da db hu (fun _ => hits_allR rb ra hp) (fin_bl I q (by simp [hl]))
end
/-! ### alike: by structure, down to flat values or to one and the same object; however deep (the stack has room) -/
/-- two lists, two tuples of alike items -/
def LkR (K : PySem.W.Frag) (H : Hp) (E : V → V → Prop) (x y : V) : Prop :=
  (∃ a b xs ys, x = .ref a ∧ y = .ref b ∧ SqL K H a xs ∧ SqL K H b ys ∧ Paired E xs ys) ∨ ∃ a b xs ys, x = .ref a ∧ y = .ref b ∧ SqT K H a xs ∧ SqT K H b ys ∧ Paired E xs ys
def Lk (K : PySem.W.Frag) (H : Hp) : Nat → V → V → Prop
  | 0 => fun _ _ => False
  | n + 1 => fun x y => (x = y ∧ flatB x = true) ∨ (∃ a, x = .ref a ∧ y = .ref a) ∨ LkR K H (Lk K H n) x y
theorem items_like {A : Around} {s : Shared} {F : V → V → Prop} (ih : ∀ x y v u, F x y → RelV x v → RelV y u → SeqAt.EqAt A s v u true) {xs ys : List V} (hp : Paired F xs ys) :
    ∀ {us ws : List Value}, Vals xs us → Vals ys ws → ∀ j (h1 : j < us.length) (h2 : j < ws.length), SeqAt.EqAt A s us[j] ws[j] true := by
  induction hp with
  | nil =>
    intro us ws r1 r2 j h1 h2
    cases r1
    exact absurd h1 (Nat.not_lt_zero j)
  | cons h _ k =>
    intro us ws r1 r2 j h1 h2
    cases r1 with
    | cons a1 b1 =>
      cases r2 with
      | cons a2 b2 =>
        cases j with
        | zero => exact ih _ _ _ _ h a1 a2
        | succ j => exact k b1 b2 j (Nat.lt_of_succ_lt_succ h1) (Nat.lt_of_succ_lt_succ h2)
section
variable {X : Cx} {pins : List (Addr × Obj)} {σ : L2.St} {H : Hp} {s : Shared}
/-- both, asked by == or by !=: R is what is told of lists and of tuples -/
theorem like_run {R : Around → Shared → Value → Value → Bool → Prop} {t : Bool} (I : Inv X pins σ H s) {A : Around} {F : V → V → Prop} (hu : A.units < cLine)
    (hl : ∀ {l b : Addr} {items items2 : Array Value} {e : Nat → Bool}, s.heap.IsList l items → s.heap.IsList b items2 → items.size = items2.size → (∀ j (h1 : j < items.size) (h2 : j < items2.size), SeqAt.EqAt A.in1 s items[j] items2[j] (e j)) →
      (List.range items.size).all e = true → R A s (.ref l) (.ref b) t)
    (ht : ∀ {l b : Addr} {items items2 : Array Value} {e : Nat → Bool}, s.heap.IsTuple l items → s.heap.IsTuple b items2 → (∀ j (h1 : j < items.size) (h2 : j < items2.size), SeqAt.EqAt A.in1 s items[j] items2[j] (e j)) →
      ((List.range (min items.size items2.size)).all e && items.size == items2.size) = true → R A s (.ref l) (.ref b) t)
    (ih : ∀ x y v u, F x y → RelV x v → RelV y u → SeqAt.EqAt A.in1 s v u true) {x y : V} {v u : Value} (h : LkR X.K H F x y) (rx : RelV x v) (ry : RelV y u) : R A s v u t := by
  rcases h with ⟨a, b, xs, ys, rfl, rfl, ha, hb, hp⟩ | ⟨a, b, xs, ys, rfl, rfl, ha, hb, hp⟩
  · cases (show v = Value.ref a from rx)
    cases (show u = Value.ref b from ry)
    obtain ⟨us, r1, p1, _⟩ := I.list ha
    obtain ⟨ws, r2, p2, _⟩ := I.list hb
    have hsz : us.toArray.size = ws.toArray.size := by
      rw [List.size_toArray, List.size_toArray, ← r1.length, ← r2.length]
      exact Paired.length hp
    refine hl (e := fun _ => true) p1.isList p2.isList hsz (fun j h1 h2 => ?_) (List.all_eq_true.mpr fun _ _ => rfl)
    have k := items_like ih hp r1 r2 j (by simpa using h1) (by simpa using h2)
    simpa using k
  · cases (show v = Value.ref a from rx)
    cases (show u = Value.ref b from ry)
    obtain ⟨us, r1, p1, _⟩ := I.tuple ha
    obtain ⟨ws, r2, p2, _⟩ := I.tuple hb
    have hsz : us.toArray.size = ws.toArray.size := by
      rw [List.size_toArray, List.size_toArray, ← r1.length, ← r2.length]
      exact Paired.length hp
    refine ht (e := fun _ => true) p1 p2 (fun j h1 h2 => ?_) ?_
    · have k := items_like ih hp r1 r2 j (by simpa using h1) (by simpa using h2)
      simpa using k
    · rw [Bool.and_eq_true]
      exact ⟨List.all_eq_true.mpr fun _ _ => rfl, by simpa using hsz⟩
theorem lk_eqAt (I : Inv X pins σ H s) : ∀ (n : Nat) (A : Around), A.units + n < cLine → ∀ (x y : V) (v u : Value), Lk X.K H n x y → RelV x v → RelV y u → SeqAt.EqAt A s v u true
  | 0, _, _, _, _, _, _, h, _, _ => (show False from h).elim
  | n + 1, A, hu, x, y, v, u, h, rx, ry => by
    rcases h with ⟨rfl, f⟩ | ⟨a, rfl, rfl⟩ | h
    · exact eqAt_same rx ry f
    · cases (show v = Value.ref a from rx)
      cases (show u = Value.ref a from ry)
      exact SeqAt.EqAt.same _
    · have hu1 : A.units < cLine := by omega
      have step : SeqAt.RcAt A s v u true := like_run (R := SeqAt.RcAt) I hu1 (fun h1 h2 h3 h4 h5 => h5 ▸ SeqAt.RcAt.lists h1 h2 h3 hu1 h4) (fun h1 h2 h4 h5 => h5 ▸ SeqAt.RcAt.tuples h1 h2 hu1 h4)
        (lk_eqAt I n A.in1 (by show A.units + 1 + n < cLine; omega)) h rx ry
      obtain ⟨a, b, rfl, rfl⟩ : ∃ a b, x = .ref a ∧ y = .ref b := by
        rcases h with ⟨a, b, _, _, e1, e2, _⟩ | ⟨a, b, _, _, e1, e2, _⟩
        · exact ⟨a, b, e1, e2⟩
        · exact ⟨a, b, e1, e2⟩
      cases (show v = Value.ref a from rx)
      cases (show u = Value.ref b from ry)
      by_cases e : a = b
      · subst e
        exact SeqAt.EqAt.same _
      · exact SeqAt.EqAt.of_refs e step
end
section
variable {X : Cx}
/-- a == b, a != b of two lists, two tuples that are alike -/
def rLikeN (K : PySem.W.Frag) (N : Nat) (t : Bool) : R2 := fun x y H Q => ∃ n, n ≤ N ∧ LkR K H (Lk K H n) x y ∧ Q (.bl t) H
abbrev rLike (K : PySem.W.Frag) (t : Bool) : R2 := rLikeN K 150 t
theorem op_eqLike {N : Nat} (hu : X.A.units + (N + 50) < cLine) : OpR X (compareOp .Eq) (rLikeN X.K N true) := by
  intro pins s σ H x y v u Q I rx ry h
  obtain ⟨n, hn, h, q⟩ := h
  have hu1 : X.A.units < cLine := by omega
  have step : SeqAt.RcAt X.A s v u true := like_run (R := SeqAt.RcAt) I hu1 (fun h1 h2 h3 h4 h5 => h5 ▸ SeqAt.RcAt.lists h1 h2 h3 hu1 h4) (fun h1 h2 h4 h5 => h5 ▸ SeqAt.RcAt.tuples h1 h2 hu1 h4)
    (lk_eqAt I n X.A.in1 (by show X.A.units + 1 + n < cLine; omega)) h rx ry
  exact step X.prog X.w X.xe _ ⟨.bl true, H, I, rfl, q⟩
theorem op_neLike {N : Nat} (hu : X.A.units + (N + 50) < cLine) : OpR X (compareOp .NotEq) (rLikeN X.K N false) := by
  intro pins s σ H x y v u Q I rx ry h
  obtain ⟨n, hn, h, q⟩ := h
  have hu1 : X.A.units < cLine := by omega
  have step : SeqAt.RcNeAt X.A s v u false := like_run (R := SeqAt.RcNeAt) I hu1
    (fun h1 h2 h3 h4 h5 => by have := SeqAt.RcNeAt.lists h1 h2 h3 hu1 h4; rw [h5] at this; exact this) (fun h1 h2 h4 h5 => by have := SeqAt.RcNeAt.tuples h1 h2 hu1 h4; rw [h5] at this; exact this)
    (lk_eqAt I n X.A.in1 (by show X.A.units + 1 + n < cLine; omega)) h rx ry
  exact step X.prog X.w X.xe _ ⟨.bl false, H, I, rfl, q⟩
end
section
variable {X : Cx}
/-- two lists of unlike lengths -/
def rLens (K : PySem.W.Frag) (t : Bool) : R2 := fun x y H Q => ∃ a b xs ys, x = .ref a ∧ y = .ref b ∧ SqL K H a xs ∧ SqL K H b ys ∧ xs.length ≠ ys.length ∧ Q (.bl t) H
theorem op_eqLens (hu : X.A.units < cLine) : OpR X (compareOp .Eq) (rLens X.K false) := by
  intro pins s σ H x y v u Q I rx ry ⟨a, b, xs, ys, e1, e2, ha, hb, hn, q⟩
  subst e1
  subst e2
  cases (show v = Value.ref a from rx)
  cases (show u = Value.ref b from ry)
  obtain ⟨us, r1, p1, _⟩ := I.list ha
  obtain ⟨ws, r2, p2, _⟩ := I.list hb
  have e : (us.toArray.size != ws.toArray.size) = true := by rw [List.size_toArray, List.size_toArray, ← r1.length, ← r2.length]; simpa using hn
  exact (SeqAt.RcAt.lists_lengths p1.isList p2.isList e hu) X.prog X.w X.xe _ ⟨.bl false, H, I, rfl, q⟩
theorem op_neLens (hu : X.A.units < cLine) : OpR X (compareOp .NotEq) (rLens X.K true) := by
  intro pins s σ H x y v u Q I rx ry ⟨a, b, xs, ys, e1, e2, ha, hb, hn, q⟩
  subst e1
  subst e2
  cases (show v = Value.ref a from rx)
  cases (show u = Value.ref b from ry)
  obtain ⟨us, r1, p1, _⟩ := I.list ha
  obtain ⟨ws, r2, p2, _⟩ := I.list hb
  have e : (us.toArray.size != ws.toArray.size) = true := by rw [List.size_toArray, List.size_toArray, ← r1.length, ← r2.length]; simpa using hn
  exact (SeqAt.RcNeAt.lists_lengths p1.isList p2.isList e hu) X.prog X.w X.xe _ ⟨.bl true, H, I, rfl, q⟩
def rEqG (K : PySem.W.Frag) : R2 := fun x y H Q => rEq x y H Q ∨ rEqD K x y H Q ∨ rSameD true x y H Q ∨ rLike K true x y H Q ∨ rLens K false x y H Q
def rNeG (K : PySem.W.Frag) : R2 := fun x y H Q => rNe x y H Q ∨ rNeD K x y H Q ∨ rSameD false x y H Q ∨ rLike K false x y H Q ∨ rLens K true x y H Q
theorem op_eqG (hu : X.A.units + 200 < cLine) : OpR X (compareOp .Eq) (rEqG X.K) := op_eq.or ((op_eqD (by omega)).or ((op_eq_dictR (by omega)).or ((op_eqLike hu).or (op_eqLens (by omega)))))
theorem op_neG (hu : X.A.units + 200 < cLine) : OpR X (compareOp .NotEq) (rNeG X.K) := op_ne.or ((op_neD (by omega)).or ((op_ne_dictR (by omega)).or ((op_neLike hu).or (op_neLens (by omega)))))
theorem hu2_of {k : Nat} {A : Around} (hr : Room k A) : A.units + 200 < cLine := by have := hr.un; omega
/-- the same where there is more room: alike up to a thousand deep -/
def rEqB (K : PySem.W.Frag) : R2 := fun x y H Q => rEqG K x y H Q ∨ rLikeN K 1000 true x y H Q
def rNeB (K : PySem.W.Frag) : R2 := fun x y H Q => rNeG K x y H Q ∨ rLikeN K 1000 false x y H Q
abbrev rLtG : R2 := rI0 fun i j => .bl (decide (i < j))
abbrev rLeG : R2 := rI0 fun i j => .bl (decide (i ≤ j))
abbrev rGtG : R2 := rI0 fun i j => .bl (decide (j < i))
abbrev rGeG : R2 := rI0 fun i j => .bl (decide (j ≤ i))
/-- y in a tracked dict -/
def rInT (neg : Bool) : R2 := fun y x H Q => ∃ a o, x = .ref a ∧ DGet H a y o ∧ Q (.bl (if neg then !o.isSome else o.isSome)) H
theorem op_in_t (hu : X.A.units + 1 < cLine) : OpR X (compareOp .In) (rInT false) := by
  intro pins s σ H y x u v Q I ry rx h
  obtain ⟨a, o, rfl, g, q⟩ := h
  cases rx
  exact d_in hu I g ry fun s' I' => ⟨.bl o.isSome, H, I', rfl, q⟩
theorem op_notIn_t (hu : X.A.units + 1 < cLine) : OpR X (compareOp .NotIn) (rInT true) := by
  intro pins s σ H y x u v Q I ry rx h
  obtain ⟨a, o, rfl, g, q⟩ := h
  cases rx
  exact d_notIn hu I g ry fun s' I' => ⟨.bl (!o.isSome), H, I', rfl, q⟩
/-- the written dict at d holds z's value, or nothing -/
def KGet (K : PySem.W.Frag) (w : World) (d : Addr) (z : Str) (r : Option V) : Prop :=
  ∃ es n, KDict K w d es n ∧ ((r = none ∧ PySem.W.nsIn K d z = some none) ∨ ∃ u v, r = some v ∧ PySem.W.nsIn K d z = some (some u) ∧ RelV v u)
def rInK (K : PySem.W.Frag) (w : World) (neg : Bool) : R2 := fun y x H Q => ∃ z d r, y = .str z ∧ x = .ref d ∧ KGet K w d z r ∧ Q (.bl (if neg then !r.isSome else r.isSome)) H
theorem KGet.ns {K : PySem.W.Frag} {w : World} {d : Addr} {z : Str} {r : Option V} (h : KGet K w d z r) : ∃ es n r', KDict K w d es n ∧ PySem.W.nsIn K d z = some r' ∧ r'.isSome = r.isSome := by
  obtain ⟨es, n, D, ⟨rfl, e⟩ | ⟨u, v, rfl, e, _⟩⟩ := h
  · exact ⟨es, n, none, D, e, rfl⟩
  · exact ⟨es, n, some u, D, e, rfl⟩
theorem op_in_k : OpR X (compareOp .In) (rInK X.K X.w false) := by
  intro pins s σ H y x u v Q I ry rx h
  obtain ⟨z, d, r, rfl, rfl, g, q⟩ := h
  obtain ⟨es, n, r', D, e, e2⟩ := g.ns
  exact op_in_kd D pins s σ H _ _ u v Q I ry rx ⟨z, r', rfl, rfl, e, by rw [e2]; exact q⟩
theorem op_notIn_k : OpR X (compareOp .NotIn) (rInK X.K X.w true) := by
  intro pins s σ H y x u v Q I ry rx h
  obtain ⟨z, d, r, rfl, rfl, g, q⟩ := h
  obtain ⟨es, n, r', D, e, e2⟩ := g.ns
  exact op_notIn_kd D pins s σ H _ _ u v Q I ry rx ⟨z, r', rfl, rfl, e, by rw [e2]; exact q⟩
def rInS (neg : Bool) : R2 := fun x y H Q => ∃ i j, x = .str i ∧ y = .str j ∧ Q (.bl (if neg then !(!(Builtin.Str.occurrences j i 0 j.length 1).isEmpty) else !(Builtin.Str.occurrences j i 0 j.length 1).isEmpty)) H
theorem op_in_s : OpR X (compareOp .In) (rInS false) := op_in_str
theorem op_notIn_s : OpR X (compareOp .NotIn) (rInS true) := op_notIn_str
def rInG (K : PySem.W.Frag) (w : World) (neg : Bool) : R2 := fun x y H Q => rIn K neg x y H Q ∨ rInS neg x y H Q ∨ rInT neg x y H Q ∨ rInK K w neg x y H Q
theorem op_inG (hu : X.A.units + 1 < cLine) : OpR X (compareOp .In) (rInG X.K X.w false) := op_in_seq.or (op_in_s.or ((op_in_t hu).or op_in_k))
theorem op_notInG (hu : X.A.units + 1 < cLine) : OpR X (compareOp .NotIn) (rInG X.K X.w true) := op_notIn_seq.or (op_notIn_s.or ((op_notIn_t hu).or op_notIn_k))
/-! ### is -/
def rIsG (neg : Bool) : R2 := fun x y H Q => (y = .non ∧ Q (.bl (if neg then !decide (x = .non) else decide (x = .non))) H) ∨ (∃ a b : Bool, x = .bl a ∧ y = .bl b ∧ Q (.bl (if neg then !decide (a = b) else decide (a = b))) H)
/-! ### len of anything -/
def rLenD : List V → Hp → VK → Prop := fun xs H Q => ∃ a kvs, xs = [.ref a] ∧ Rd H a (.dK kvs) ∧ Q (.int kvs.length) H
theorem call_lenK : CallR X (.builtin "len") rLenD := by
  intro pins s σ H xs us Q I r h
  obtain ⟨a, kvs, rfl, g, q⟩ := h
  obtain ⟨u, rfl, ru⟩ := vals1 r
  cases ru
  exact d_len I g fun t s' I' => ⟨.int kvs.length, H, I', ⟨t, rfl⟩, q⟩
def rLenG (K : PySem.W.Frag) : List V → Hp → VK → Prop := fun xs H Q => (∃ x n, xs = [x] ∧ LenV K x H n ∧ Q (.int n) H) ∨ rLenD xs H Q
theorem call_lenG : CallR X (.builtin "len") (rLenG X.K) := call_len.or call_lenK
/-! ### what is walked -/
def iOr (a b : TI) : TI := fun σ H R => a σ H R ∨ b σ H R
theorem piOr {tg e : Expr} {a b : TI} (ha : PI X tg e a) (hb : PI X tg e b) : PI X tg e (iOr a b) :=
  ⟨fun pins s σ H R I h => h.elim (ha.run pins s σ H R I) (hb.run pins s σ H R I)⟩
/-- a list, a tuple, a text -/
def iSeq (K : PySem.W.Frag) (te : TE) : TI := iOr (iList K te) (iOr (iTup K te) (iStr te))
theorem pi_seq {tg e : Expr} {te : TE} (h : PE X e te) : PI X tg e (iSeq X.K te) := piOr (pi_list h) (piOr (pi_tup h) (pi_str h))
end

/-! ### subscripts, slices, stores -/
section
variable {X : Cx}
def rGetT : R2 := fun x y H Q => ∃ a v, x = .ref a ∧ DGet H a y (some v) ∧ Q v H
theorem ix_dictT (hu : X.A.units + 1 < cLine) : IxR X rGetT := by
  intro value slice pins s σ H x y v u Q I rx ry h hs
  obtain ⟨a, z, rfl, g, q⟩ := h
  cases rx
  exact tail_any (dict_typeIs I g) PySem.F.slot_dict_getitem.lookup (d_getItem hu I g ry fun w' s3 I3 rw' => ⟨z, H, I3, rw', q⟩) hs
def rGetK (K : PySem.W.Frag) (w : World) : R2 := fun x y H Q => ∃ d z v, x = .ref d ∧ y = .str z ∧ KGet K w d z (some v) ∧ Q v H
theorem ix_dictK : IxR X (rGetK X.K X.w) := by
  intro value slice pins s σ H x y v u Q I rx ry h hs
  obtain ⟨d, z, r, rfl, rfl, ⟨es, n, D, ⟨e0, _⟩ | ⟨u0, v0, e0, e1, r0⟩⟩, q⟩ := h
  · cases e0
  · cases e0
    have ry' := ry
    cases rx
    exact tail_any (kd_type D I) PySem.F.slot_dict_getitem.lookup (op_item_kd D pins s σ H (.ref d) (.str z) (.ref d) u Q I rfl ry' ⟨z, u0, r, rfl, rfl, e1, r0, q⟩) hs
def rIxG (K : PySem.W.Frag) (w : World) : R2 := fun x y H Q => rIx K x y H Q ∨ rGetT x y H Q ∨ rGetK K w x y H Q
theorem ix_any (hu : X.A.units + 1 < cLine) : IxR X (rIxG X.K X.w) := ix_seq.or ((ix_dictT hu).or ix_dictK)
def tIxG (K : PySem.W.Frag) (w : World) (ta tb : TE) : TE := tOp (rIxG K w) ta tb
theorem pe_ixG {a b : Expr} {ta tb : TE} {pos : Pos} (hu : X.A.units + 1 < cLine) (ha : PE X a ta) (hb : PE X b tb) (hs : PlainIx b) : PE X (.Subscript a b pos) (tIxG X.K X.w ta tb) := pe_ix (ix_any hu) ha hb hs
def rSlG (K : PySem.W.Frag) : V → Option Int → Option Int → Hp → VK → Prop := fun x lo hi H Q => (∃ a xs, x = .ref a ∧ SqL K H a xs ∧ New H (.lst (cutV xs lo hi)) fun p H' => Q (.ref p) H') ∨
  (∃ a xs, x = .ref a ∧ SqT K H a xs ∧ (HT.sIx xs.length 0 lo = 0 ∧ HT.sIx xs.length xs.length hi = xs.length → Q (.ref a) H) ∧ (¬ (HT.sIx xs.length 0 lo = 0 ∧ HT.sIx xs.length xs.length hi = xs.length) → New H (.tup (cutV xs lo hi)) fun p H' => Q (.ref p) H')) ∨ rSlS x lo hi H Q
theorem sl_any : SlR X (rSlG X.K) := slr_imp (sl_list.or (sl_tupA.or sl_str)) fun x lo hi H Q h => by
  rcases h with ⟨a, xs, e, h, n⟩ | ⟨a, xs, e, h, n1, n2⟩ | h
  · exact .inl ⟨a, xs, e, h, n.at⟩
  · exact .inr (.inl ⟨a, xs, e, h, n1, fun z => (n2 z).at⟩)
  · exact .inr (.inr h)
def tRevG (K : PySem.W.Frag) (te : TE) : TE := fun σ H Q => te σ H fun x H1 => ∃ a xs, x = .ref a ∧ SqL K H1 a xs ∧ New H1 (.lst xs.reverse) fun p H' => Q (.ref p) H'
theorem pe_revG {e : Expr} {te : TE} {k : Nat} {p1 p2 p3 pos : Pos} (he : PE X e te) : PE X (.Subscript e (.Slice none none (some (.UnaryOp .USub (.Constant (.int 1) k p1) p2)) p3) pos) (tRevG X.K te) :=
  ⟨fun pins s σ H Q I q => (pe_revL (pe_cl he)).run pins s σ H Q I ⟨_, q, fun x H1 ⟨a, xs, e, h, n⟩ => ⟨a, xs, e, h, n.at⟩⟩⟩
def rSetD : TSet := fun o i v H Q => ∃ a H', o = .ref a ∧ DPut H a i v H' ∧ Q H'
theorem set_dict (hu : X.A.units + 1 < cLine) : PSet X rSetD := by
  intro pins s σ H o i v ov iv u Q I ro ri rv h
  obtain ⟨a, H', rfl, g, q⟩ := h
  cases ro
  exact d_setItem hu I g ri rv fun s' I' => ⟨H', I', q⟩
def rSetG : TSet := fun o i v H Q => (∃ p xs k j, o = .ref p ∧ i = .int k ∧ H p = some (.lst xs) ∧ ixN xs.length k = some j ∧ Put H p (.lst (xs.set j v)) Q) ∨
  (∃ a kvs k, o = .ref a ∧ H a = some (.dK kvs) ∧ i = kV k ∧ kvs.length < sizeLine ∧ Put H a (.dK (putK kvs k v)) Q)
theorem set_any (hu : X.A.units + 1 < cLine) : PSet X rSetG := by
  intro pins s σ H o i v ov iv u Q I ro ri rv h
  rcases h with ⟨p, xs, k, j, e1, e2, h1, h2, q⟩ | ⟨a, kvs, k, e1, h1, e2, hl, q⟩
  · exact set_list pins s σ H o i v ov iv u Q I ro ri rv ⟨p, xs, k, j, e1, e2, h1, h2, q.at⟩
  · exact set_dict hu pins s σ H o i v ov iv u Q I ro ri rv ⟨a, _, e1, .inl ⟨kvs, k, h1, e2, hl, rfl⟩, q.at⟩
/-! ### tests by truth -/
def tTru (K : PySem.W.Frag) (ta : TE) : TT := fun σ H Q => ta σ H fun x H' => ∃ k, TruV K x H' k ∧ Q k H'
theorem pt_tru {a : Expr} {ta : TE} (ha : PE X a ta) (he : ∀ whole, isTrue a X.env whole = (do let v ← whole; standAt a.pos; holding [v] (truthy v))) : PT X a (tTru X.K ta) := pt_truth ha he
/-! ### builtins -/
abbrev rAbsG : List V → Hp → VK → Prop := fun xs H Q => ∃ i, xs = [.int i] ∧ Q (.int (if i < 0 then -i else i)) H
abbrev rMax2 : List V → Hp → VK → Prop := fun xs H Q => ∃ i j, xs = [.int i, .int j] ∧ Q (.int (if j > i then j else i)) H
abbrev rMin2 : List V → Hp → VK → Prop := fun xs H Q => ∃ i j, xs = [.int i, .int j] ∧ Q (.int (if j < i then j else i)) H
def rIntS : List V → Hp → VK → Prop := fun xs H Q => ∃ a n, xs = [.str a] ∧ PySem.intText? a = some n ∧ a.length ≤ 640 ∧ Q (.int n) H
def rIntG : List V → Hp → VK → Prop := fun xs H Q => (∃ i, xs = [.int i] ∧ Q (.int i) H) ∨ ∃ k, xs = [.bl k] ∧ Q (.int (if k then 1 else 0)) H
abbrev rBool1 : List V → Hp → VK → Prop := fun xs H Q => (∃ i, xs = [.int i] ∧ Q (.bl (i != 0)) H) ∨ ∃ k, xs = [.bl k] ∧ Q (.bl k) H
abbrev rStrG : List V → Hp → VK → Prop := fun xs H Q => ∃ i, xs = [.int i] ∧ i.natAbs.log2 < 1920 ∧ Q (.str (toString i)) H
def rListG (K : PySem.W.Frag) : List V → Hp → VK → Prop := fun xs H Q => (∃ p ys, xs = [.ref p] ∧ (SqL K H p ys ∨ SqT K H p ys) ∧ New H (.lst ys) fun l H' => Q (.ref l) H') ∨
  ∃ p kvs, xs = [.ref p] ∧ H p = some (.dK kvs) ∧ New H (.lst (kvs.map fun kv => kV kv.1)) fun q H' => Q (.ref q) H'
theorem call_listG (hc : X.calm = true) : CallR X (.type "list") (rListG X.K) := callr_imp (CallR.or call_list_of (call_list_dK hc)) fun xs H Q h => by
  rcases h with ⟨p, ys, e, h, n⟩ | ⟨p, kvs, e, h, n⟩
  · exact .inl ⟨p, ys, e, h, n.at⟩
  · exact .inr ⟨p, kvs, e, h, n.at⟩
def rTupleG (K : PySem.W.Frag) : List V → Hp → VK → Prop := fun xs H Q => ∃ p ys, xs = [.ref p] ∧ ((SqL K H p ys ∧ New H (.tup ys) fun l H' => Q (.ref l) H') ∨ (SqT K H p ys ∧ Q (.ref p) H))
theorem call_tupleG : CallR X (.type "tuple") (rTupleG X.K) := callr_imp call_tuple_of fun xs H Q ⟨p, ys, e, h⟩ => ⟨p, ys, e, h.imp (fun ⟨a, n⟩ => ⟨a, n.at⟩) id⟩
/-! ### methods of lists and texts -/
def rAppendG : V → List V → Hp → VK → Prop := fun x vs H Q => ∃ l xs y, x = .ref l ∧ vs = [y] ∧ H l = some (.lst xs) ∧ xs.length < sizeLine ∧ Put H l (.lst (xs ++ [y])) fun H' => Q .non H'
theorem mt_appendG : MtR X "list.append" rAppendG := mtr_imp mt_append fun x xs H Q ⟨l, ys, y, e1, e2, h, hl, q⟩ => ⟨l, ys, y, e1, e2, h, hl, q.at⟩
def rExtendG : V → List V → Hp → VK → Prop := fun x vs H Q => ∃ l b xs zs, x = .ref l ∧ vs = [.ref b] ∧ H l = some (.lst xs) ∧ H b = some (.lst zs) ∧ xs.length + zs.length ≤ sizeLine ∧ Put H l (.lst (xs ++ zs)) fun H' => Q .non H'
theorem mt_extendG : MtR X "list.extend" rExtendG := mtr_imp mt_extend fun x xs H Q ⟨l, b, ys, zs, e1, e2, h, h2, hl, q⟩ => ⟨l, b, ys, zs, e1, e2, h, h2, hl, q.at⟩
def rPopG : V → List V → Hp → VK → Prop := fun x vs H Q => ∃ l xs y, x = .ref l ∧ vs = [] ∧ H l = some (.lst xs) ∧ xs[xs.length - 1]? = some y ∧ Put H l (.lst xs.dropLast) fun H' => Q y H'
theorem mt_popG : MtR X "list.pop" rPopG := mtr_imp mt_pop fun x xs H Q ⟨l, ys, y, e1, e2, h, hl, q⟩ => ⟨l, ys, y, e1, e2, h, hl, q.at⟩
abbrev rIsiG := rIsi
theorem call_isiG : CallR X (.builtin "isinstance") (rIsiG X.K) := call_isi
def rSplitG : V → List V → Hp → VK → Prop := fun x xs H Q => ∃ a b, x = .str a ∧ xs = [.str b] ∧ (b.length == 0) = false ∧ a.length + 2 ≤ sizeLine ∧ New H (.lst ((Txt.split a b).map V.str)) fun p H' => Q (.ref p) H'
abbrev rJoinG (K : PySem.W.Frag) : V → List V → Hp → VK → Prop := fun x xs H Q => ∃ a p, ∃ ys : List Str, x = .str a ∧ xs = [.ref p] ∧ (SqL K H p (ys.map V.str) ∨ SqT K H p (ys.map V.str)) ∧
      (ys.map (·.length)).sum + ys.length * a.length ≤ 16777216 ∧ Q (.str (Txt.join a ys)) H
theorem pe_splitG {o e : Expr} {to te : TE} {apos pos : Pos} (ho : PE X o to) (he : PE X e te) (hs : starEach [e] X.env = [(false, eval e X.env)] := by rfl) (hbase : attributeBase o "split" X.env (eval o X.env) = eval o X.env := by rfl) (hline : (apos.endLine == pos.line) = true := by rfl) :
    PE X (.Call (.Attribute o "split" apos) [e] [] pos) (tM1 rSplitG to te) :=
  pe_m1 F.slot_str_split F.type_str_split (mtr_imp mt_split fun x xs H Q ⟨a, b, e1, e2, h1, h2, n⟩ => ⟨a, b, e1, e2, h1, h2, n.at⟩) ho he hs hbase hline
end
/-! ### calls of the text's own defs -/
/-- a def that may be called by its name (no exception leaves it) -/
structure Cal (P : Program) (w : World) (K : PySem.W.Frag) (mg : Str → Option Value) (base : Heap) (k : Nat) (x : Str) (sp : Sp) : Prop where
  ex : ∃ (f : Addr) (fd : FuncData) (ps : List Str), FnOk P w K mg base CX0 k f fd ps sp ∧ mg x = some (.ref f) ∧ PySem.W.keepIn K (.ref f) = true ∧ Binds K fd ps []
section
variable {P : Program} {w : World} {K : PySem.W.Frag} {mg : Str → Option Value} {base : Heap}
theorem Cal.mono {j k : Nat} {x : Str} {sp : Sp} (c : Cal P w K mg base j x sp) (h : j ≤ k) : Cal P w K mg base k x sp := by
  obtain ⟨f, fd, ps, F, a, b, d⟩ := c.ex
  exact ⟨f, fd, ps, F.mono h, a, b, d⟩
theorem Cal.imp {k : Nat} {x : Str} {sp sp' : Sp} (c : Cal P w K mg base k x sp) (h : ∀ vs H Q E, sp' vs H Q E → sp vs H Q E) : Cal P w K mg base k x sp' := by
  obtain ⟨f, fd, ps, F, a, b, d⟩ := c.ex
  exact ⟨f, fd, ps, F.imp h, a, b, d⟩
theorem cal_mk {x : Str} {params : Arguments} {body : List Stmt} {scope : Scope} {f : Addr} {fd : FuncData} {N ps : List Str} {k : Nat} {sp : Sp} (F : FunD K x x params body scope [] [] f fd) (hm : mg x = some (.ref f)) (S : FnScope N ps scope)
    (b : Binds K fd ps []) (len : ∀ vs H Q E, sp vs H Q E → vs.length = ps.length)
    (hbody : ∀ (cdv : Value) (A : Around) (outer : List Env) (s : Shared) (H : Hp) (vs : List V) (Q : VK) (E : XK), Room k (A.deeper (envOfC x scope s.heap.objs.size f cdv)) → sp vs H Q E →
      ∃ t, PSs (cxOf CX0 P w K mg base N x scope f cdv A outer s H E) body t ∧ t { nx := fun _ H' => Q .non H', rt := Q } (start N vs) H) : Cal P w K mg base (k + 1) x sp :=
  ⟨f, fd, ps, F.ok S len hbody, hm, F.kp, b⟩
end
section
variable {X : Cx} {k : Nat} {x : Str} {sp : Sp} {p pos : Pos} {e : Expr} {es : List Expr} {t : TA}
theorem pe_cal (c : Cal X.prog X.w X.K X.mg X.base k x sp) (hr : Room k X.A) (hg : Gl X x) (ha : PA X (e :: es) t)
    (hdb : (x == ("__debug__" : Str)) = false := by decide) (he : starEach (e :: es) X.env = (false, eval e X.env) :: starEach es X.env := by rfl) (hpl : (backTo pos (starEach es X.env)).any (·.1) = false := by rfl) :
    PE X (.Call (.Name x p) (e :: es) [] pos) (tCall sp [] E0 t) := by
  obtain ⟨f, fd, ps, F, a, b, d⟩ := c.ex
  exact pe_call F hr hg a b d .nil pass0 ha hdb he hpl
end
/-- the slots at the entry: m of them -/
def startN (m : Nat) (vs : List V) : L2.St := vs.map some ++ List.replicate (m - vs.length) none
/-- what of a def is shown without the text: its reading, run at its parameters' values, keeps its promise -/
structure PureOk (n : Nat) (sp : Sp) (t : TS) (m : Nat) : Prop where
  len : ∀ vs H Q E, sp vs H Q E → vs.length = n
  run : ∀ vs H Q E, sp vs H Q E → t { nx := fun _ H' => Q .non H', rt := Q } (startN m vs) H
/-- a written table with text keys -/
def KTab (K : PySem.W.Frag) (w : World) (d : Addr) (kvs : List (Str × V)) : Prop := ∀ z : Str, KGet K w d z ((kvs.find? fun q => decide (q.1 = z)).map (·.2))

/-! ### readings, step by step -/
section
variable {K : PySem.W.Frag} {w : World} {D : Ends} {σ σ' : L2.St} {H : Hp} {Q : VK} {v x y : V} {i j : Int} {n : Nat} {ta tb tc te : TE} {t u : TS} {p a b : Addr} {xs ys : List V} {s z : Str}
theorem g_seq (h : t { D with nx := u D } σ H) : tSeq t u D σ H := h
theorem g_next (h : D.nx σ H) : tNext D σ H := h
theorem g_ret (h : te σ H D.rt) : tRet te D σ H := h
theorem g_drop (h : te σ H fun _ H1 => D.nx σ H1) : tDrop te D σ H := h
theorem g_ifs {c : TT} (h : c σ H fun b H1 => if b = true then t D σ H1 else u D σ H1) : tIfS c t u D σ H := h
theorem g_asg {g : TG} (h : te σ H fun x H1 => g x σ H1 D.nx) : tAsg te g D σ H := h
theorem g_par {k l : Nat} {ta : TA} (h : ta σ H fun vs H1 => ∃ v w, vs = [v, w] ∧ D.nx ((σ.set k (some v)).set l (some w)) H1) : tPar k l ta D σ H := h
theorem g_name {Q : L2.St → Hp → Prop} {k : Nat} (h : σ.set k (some v) = σ') (q : Q σ' H) : gName k v σ H Q := by subst h; exact q
theorem g_sub {to ti : TE} {ts : TSet} {Q : L2.St → Hp → Prop} (h : to σ H fun o H1 => ti σ H1 fun i H2 => ts o i v H2 fun H3 => Q σ H3) : gSub to ti ts v σ H Q := h
theorem g_var {k : Nat} (h : σ[k]? = some (some v)) (q : Q v H) : tVar k σ H Q := ⟨v, h, q⟩
theorem g_c (q : Q v H) : tC v σ H Q := q
theorem g_op {r : R2} (h : ta σ H fun x H1 => tb σ H1 fun y H2 => r x y H2 Q) : tOp r ta tb σ H Q := h
theorem g_ixop (h : ta σ H fun x H1 => tb σ H1 fun y H2 => rIxG K w x y H2 Q) : tIxG K w ta tb σ H Q := h
theorem g_un {r : V → Hp → VK → Prop} (h : ta σ H fun x H1 => r x H1 Q) : tUn r ta σ H Q := h
theorem g_neg (q : Q (.int (-i)) H) : rU (fun i => .int (-i)) (.int i) H Q := ⟨i, rfl, q⟩
theorem g_test {Q : Bool → Hp → Prop} (h : te σ H fun x H' => ∃ k, x = .bl k ∧ Q k H') : tTest te σ H Q := h
theorem g_not {c : TT} {Q : Bool → Hp → Prop} (h : c σ H fun c H1 => Q (!c) H1) : tNot c σ H Q := h
theorem g_and {c d : TT} {Q : Bool → Hp → Prop} (h : c σ H fun c H1 => if c = true then d σ H1 Q else Q false H1) : tAnd c d σ H Q := h
theorem g_or {c d : TT} {Q : Bool → Hp → Prop} (h : c σ H fun c H1 => if c = true then Q true H1 else d σ H1 Q) : tOr c d σ H Q := h
theorem g_tru {Q : Bool → Hp → Prop} (h : ta σ H fun x H' => ∃ k, TruV K x H' k ∧ Q k H') : tTru K ta σ H Q := h
theorem g_trubl {R : Bool → Prop} {k : Bool} (q : R k) : ∃ k', TruV K (.bl k) H k' ∧ R k' := ⟨k, rfl, q⟩
theorem g_truint {R : Bool → Prop} (q : R (i != 0)) : ∃ k', TruV K (.int i) H k' ∧ R k' := ⟨_, rfl, q⟩
theorem g_bl {R : Bool → Prop} {k : Bool} (q : R k) : ∃ k', V.bl k = .bl k' ∧ R k' := ⟨k, rfl, q⟩
theorem g_ifx {c : TT} (h : c σ H fun c H1 => if c = true then ta σ H1 Q else tb σ H1 Q) : tIf c ta tb σ H Q := h
theorem g_andT (h : ta σ H fun x H1 => ∃ k, TruV K x H1 k ∧ if k = true then tb σ H1 Q else Q x H1) : tAndT K ta tb σ H Q := h
theorem g_orT (h : ta σ H fun x H1 => ∃ k, TruV K x H1 k ∧ if k = true then Q x H1 else tb σ H1 Q) : tOrT K ta tb σ H Q := h
theorem g_notT (h : ta σ H fun x H1 => ∃ k, TruV K x H1 k ∧ Q (.bl (!k)) H1) : tNotT K ta σ H Q := h
theorem g_nil {Q : List V → Hp → Prop} (q : Q [] H) : tNil σ H Q := q
theorem g_cons {Q : List V → Hp → Prop} {tr : TA} (h : te σ H fun x H1 => tr σ H1 fun xs H2 => Q (x :: xs) H2) : tCons te tr σ H Q := h
theorem g_call {sp : Sp} {E : XK} {t : TA} (h : t σ H fun vs H1 => sp (vs ++ []) H1 Q E) : tCall sp [] E t σ H Q := h
theorem g_cb {r : List V → Hp → VK → Prop} {t : TA} (h : t σ H fun vs H1 => r vs H1 Q) : tCB r t σ H Q := h
theorem g_tup {t : TA} (h : t σ H fun xs H1 => xs.length ≤ sizeLine ∧ New H1 (.tup xs) fun p H2 => Q (.ref p) H2) : tTupN t σ H Q := h
theorem g_lst {t : TA} (h : t σ H fun xs H1 => xs.length ≤ sizeLine ∧ New H1 (.lst xs) fun p H2 => Q (.ref p) H2) : tLstN t σ H Q := h
theorem g_len {R : Prop} (hl : xs.length ≤ sizeLine) (q : R) : xs.length ≤ sizeLine ∧ R := ⟨hl, q⟩
theorem g_dnew (h : New H (.dK []) fun p H2 => Q (.ref p) H2) : tDNewKN σ H Q := h
theorem g_disp {trs : List (TE × TE)} (h : New H (.dK []) fun p H1 => tPairs trs σ H1 fun ps H2 => H2 p = some (.dK []) ∧ ∃ kvs : List (Key × V), ps = kvs.map (fun kv => (kV kv.1, kv.2)) ∧ kvs.length ≤ 15 ∧ Put H2 p (.dK (mergeK [] kvs)) fun H' => Q (.ref p) H') : tDispN trs σ H Q := h
theorem g_pnil {Q : List (V × V) → Hp → Prop} (q : Q [] H) : tPairs [] σ H Q := q
theorem g_pcons {Q : List (V × V) → Hp → Prop} {r : List (TE × TE)} (h : ta σ H fun x H1 => tb σ H1 fun y H2 => tPairs r σ H2 fun ps H3 => Q ((x, y) :: ps) H3) : tPairs ((ta, tb) :: r) σ H Q := h
theorem g_pairs {R : List (Key × V) → Prop} {ps : List (V × V)} (kvs : List (Key × V)) (hd : H p = some (.dK [])) (e : ps = kvs.map (fun kv => (kV kv.1, kv.2))) (hl : kvs.length ≤ 15) (q : R kvs) : H p = some (.dK []) ∧ ∃ kvs : List (Key × V), ps = kvs.map (fun kv => (kV kv.1, kv.2)) ∧ kvs.length ≤ 15 ∧ R kvs := ⟨hd, kvs, e, hl, q⟩
theorem g_get2 (h : ta σ H fun x H1 => ∃ a, x = .ref a ∧ IsD H1 a ∧ tb σ H1 fun y H2 => tc σ H2 fun z H3 => ∃ o, DGet H3 a y o ∧ Q (o.getD z) H3) : tDGet2 ta tb tc σ H Q := h
theorem g_bm {T : String} {r : V → List V → Hp → VK → Prop} {to : TE} {t : TA} (h : to σ H fun x H1 => tyV K T x H1 ∧ t σ H1 fun xs H2 => r x xs H2 Q) : tBM K T r to t σ H Q := h
theorem g_bm0 {T : String} {r : V → List V → Hp → VK → Prop} {to : TE} (h : to σ H fun x H1 => tyV K T x H1 ∧ r x [] H1 Q) : tBM0 K T r to σ H Q := h
theorem g_tyl {R : Prop} (h : SqL K H a xs) (q : R) : tyV K "list" (.ref a) H ∧ R := ⟨.inl ⟨rfl, xs, h⟩, q⟩
theorem g_m1 {r : V → List V → Hp → VK → Prop} {to te : TE} (h : to σ H fun x H1 => (∃ a, x = .str a) ∧ te σ H1 fun y H2 => r x [y] H2 Q) : tM1 r to te σ H Q := h
theorem g_isstr {R : Prop} (q : R) : (∃ a, V.str s = .str a) ∧ R := ⟨⟨s, rfl⟩, q⟩
/-- the operators by kinds -/
theorem g_addI (q : Q (.int (i + j)) H) : rAddG K (.int i) (.int j) H Q := .inl ⟨i, j, rfl, rfl, q⟩
theorem g_addS (hl : s.length + z.length ≤ sizeLine) (q : Q (.str (s ++ z)) H) : rAddG K (.str s) (.str z) H Q := .inr (.inl ⟨s, z, rfl, rfl, hl, q⟩)
theorem g_addL (h1 : H a = some (.lst xs)) (h2 : H b = some (.lst ys)) (hl : xs.length + ys.length ≤ sizeLine) (q : New H (.lst (xs ++ ys)) fun p H' => Q (.ref p) H') : rAddG K (.ref a) (.ref b) H Q := .inr (.inr (.inl ⟨a, b, xs, ys, rfl, rfl, h1, h2, hl, q⟩))
theorem g_subI (q : Q (.int (i - j)) H) : rSubG (.int i) (.int j) H Q := ⟨i, j, rfl, rfl, q⟩
theorem g_mulI (hc : CMul i j) (q : Q (.int (i * j)) H) : rMulG (.int i) (.int j) H Q := .inl ⟨i, j, rfl, rfl, hc, q⟩
theorem g_divI (hc : CDivW i j) (q : Q (.int (i / j)) H) : rDivG (.int i) (.int j) H Q := ⟨i, j, rfl, rfl, hc, q⟩
theorem g_modI (hc : 0 < j) (q : Q (.int (i % j)) H) : rModG (.int i) (.int j) H Q := ⟨i, j, rfl, rfl, hc, q⟩
theorem g_powI (hc : CPow i j) (q : Q (.int (i ^ j.toNat)) H) : rPowG (.int i) (.int j) H Q := ⟨i, j, rfl, rfl, hc, q⟩
theorem g_ltI (q : Q (.bl (decide (i < j))) H) : rLtG (.int i) (.int j) H Q := ⟨i, j, rfl, rfl, q⟩
theorem g_leI (q : Q (.bl (decide (i ≤ j))) H) : rLeG (.int i) (.int j) H Q := ⟨i, j, rfl, rfl, q⟩
theorem g_gtI (q : Q (.bl (decide (j < i))) H) : rGtG (.int i) (.int j) H Q := ⟨i, j, rfl, rfl, q⟩
theorem g_geI (q : Q (.bl (decide (j ≤ i))) H) : rGeG (.int i) (.int j) H Q := ⟨i, j, rfl, rfl, q⟩
theorem g_eqI (q : Q (.bl (decide (i = j))) H) : rEqG K (.int i) (.int j) H Q := .inl ⟨rfl, by rw [show decide (V.int i = V.int j) = decide (i = j) from by simp]; exact q⟩
theorem g_eqS (q : Q (.bl (decide (s = z))) H) : rEqG K (.str s) (.str z) H Q := .inl ⟨rfl, by rw [show decide (V.str s = V.str z) = decide (s = z) from by simp]; exact q⟩
theorem g_neI (q : Q (.bl (!decide (i = j))) H) : rNeG K (.int i) (.int j) H Q := .inl ⟨rfl, by rw [show decide (V.int i = V.int j) = decide (i = j) from by simp]; exact q⟩
theorem g_neS (q : Q (.bl (!decide (s = z))) H) : rNeG K (.str s) (.str z) H Q := .inl ⟨rfl, by rw [show decide (V.str s = V.str z) = decide (s = z) from by simp]; exact q⟩
theorem g_eqD {d e : PyData} (h1 : Dp K H x d) (h2 : Dp K H y e) (h3 : SeqAt.shaped d = true) (h4 : SeqAt.shaped e = true) (q : Q (.bl (PyData.eqv d e)) H) : rEqG K x y H Q := .inr (.inl ⟨d, e, h1, h2, h3, h4, q⟩)
theorem g_neD {d e : PyData} (h1 : Dp K H x d) (h2 : Dp K H y e) (h3 : SeqAt.shaped d = true) (h4 : SeqAt.shaped e = true) (q : Q (.bl (!PyData.eqv d e)) H) : rNeG K x y H Q := .inr (.inl ⟨d, e, h1, h2, h3, h4, q⟩)
theorem g_ixL (h : SqL K H p xs) (e : atI xs i = some v) (q : Q v H) : rIxG K w (.ref p) (.int i) H Q := .inl (.inl ⟨p, xs, i, v, rfl, rfl, h, e, q⟩)
theorem g_ixT (h : SqT K H p xs) (e : atI xs i = some v) (q : Q v H) : rIxG K w (.ref p) (.int i) H Q := .inl (.inr (.inl ⟨p, xs, i, v, rfl, rfl, h, e, q⟩))
theorem g_ixS {c : Nat} (hl : s.length ≤ sizeLine) (e : atI s.cps.toList i = some c) (q : Q (.str ⟨#[c]⟩) H) : rIxG K w (.str s) (.int i) H Q := .inl (.inr (.inr ⟨s, i, c, rfl, rfl, hl, e, q⟩))
theorem g_ixD {kvs : List (Key × V)} {k : Key} (h : H p = some (.dK kvs)) (hx : x = kV k) (e : valV kvs k = some v) (q : Q v H) : rIxG K w (.ref p) x H Q := .inr (.inl ⟨p, v, rfl, .inl ⟨kvs, k, .of h, hx, e.symm⟩, q⟩)
theorem g_setL {R : Hp → Prop} {k : Nat} (h : H p = some (.lst xs)) (e : ixN xs.length i = some k) (q : Put H p (.lst (xs.set k v)) R) : rSetG (.ref p) (.int i) v H R := .inl ⟨p, xs, i, k, rfl, rfl, h, e, q⟩
theorem g_setK {R : Hp → Prop} {kvs : List (Key × V)} {k : Key} (h : H p = some (.dK kvs)) (e : x = kV k) (hl : kvs.length < sizeLine) (q : Put H p (.dK (putK kvs k v)) R) : rSetG (.ref p) x v H R := .inr ⟨p, kvs, k, rfl, h, e, hl, q⟩
theorem g_lenL (h : SqL K H p xs) (q : Q (.int xs.length) H) : rLenG K [.ref p] H Q := .inl ⟨.ref p, xs.length, rfl, .inl ⟨xs, h, rfl⟩, q⟩
theorem g_lenT (h : SqT K H p xs) (q : Q (.int xs.length) H) : rLenG K [.ref p] H Q := .inl ⟨.ref p, xs.length, rfl, .inr ⟨xs, h, rfl⟩, q⟩
theorem g_lenS (h : s.length ≤ sizeLine) (q : Q (.int s.length) H) : rLenG K [.str s] H Q := .inl ⟨.str s, s.length, rfl, ⟨h, rfl⟩, q⟩
theorem g_abs (q : Q (.int i.natAbs) H) : rAbsG [.int i] H Q := ⟨i, rfl, by rw [show (if i < 0 then -i else i) = (i.natAbs : Int) from by split <;> omega]; exact q⟩
theorem g_max2 (q : Q (.int (max i j)) H) : rMax2 [.int i, .int j] H Q := ⟨i, j, rfl, by rw [show (if j > i then j else i) = max i j from by split <;> omega]; exact q⟩
theorem g_min2 (q : Q (.int (min i j)) H) : rMin2 [.int i, .int j] H Q := ⟨i, j, rfl, by rw [show (if j < i then j else i) = min i j from by split <;> omega]; exact q⟩
theorem g_intI (q : Q (.int i) H) : rIntG [.int i] H Q := .inl ⟨i, rfl, q⟩
theorem g_intB {k : Bool} (q : Q (.int (if k then 1 else 0)) H) : rIntG [.bl k] H Q := .inr ⟨k, rfl, q⟩
theorem g_listL (h : SqL K H p xs) (q : New H (.lst xs) fun l H' => Q (.ref l) H') : rListG K [.ref p] H Q := .inl ⟨p, xs, rfl, .inl h, q⟩
theorem g_listT (h : SqT K H p xs) (q : New H (.lst xs) fun l H' => Q (.ref l) H') : rListG K [.ref p] H Q := .inl ⟨p, xs, rfl, .inr h, q⟩
theorem g_tupleL (h : SqL K H p xs) (q : New H (.tup xs) fun l H' => Q (.ref l) H') : rTupleG K [.ref p] H Q := ⟨p, xs, rfl, .inl ⟨h, q⟩⟩
theorem g_tupleT (h : SqT K H p xs) (q : Q (.ref p) H) : rTupleG K [.ref p] H Q := ⟨p, xs, rfl, .inr ⟨h, q⟩⟩
theorem g_append (h : H a = some (.lst xs)) (hl : xs.length < sizeLine) (q : Put H a (.lst (xs ++ [v])) fun H' => Q .non H') : rAppendG (.ref a) [v] H Q := ⟨a, xs, v, rfl, rfl, h, hl, q⟩
theorem g_extend (h : H a = some (.lst xs)) (h2 : H b = some (.lst ys)) (hl : xs.length + ys.length ≤ sizeLine) (q : Put H a (.lst (xs ++ ys)) fun H' => Q .non H') : rExtendG (.ref a) [.ref b] H Q := ⟨a, b, xs, ys, rfl, rfl, h, h2, hl, q⟩
theorem g_pop (h : H a = some (.lst (xs ++ [v]))) (q : Put H a (.lst xs) fun H' => Q v H') : rPopG (.ref a) [] H Q := ⟨a, xs ++ [v], v, rfl, rfl, h, by simp, by simpa using q⟩
/-- a common rest of several ways -/
structure Rest (B : Prop) : Prop where
  out : B
theorem g_cut {A B : Prop} (f : Rest B → A) (b : B) : A := f ⟨b⟩
/-- the slices -/
theorem g_sl {r : V → Option Int → Option Int → Hp → VK → Prop} {tl th : TO} (h : te σ H fun x H1 => tl σ H1 fun l H2 => th σ H2 fun u H3 => r x l u H3 Q) : tSl r te tl th σ H Q := h
theorem g_nopart {Q : Option Int → Hp → Prop} (q : Q none H) : tNoPart σ H Q := q
theorem g_part {Q : Option Int → Hp → Prop} (h : te σ H fun x H1 => ∃ i, x = .int i ∧ Q (some i) H1) : tPart te σ H Q := h
theorem g_ispart {R : Int → Prop} (q : R i) : ∃ i', V.int i = .int i' ∧ R i' := ⟨i, rfl, q⟩
theorem g_slL {lo hi : Option Int} (h : SqL K H p xs) (q : New H (.lst (cutV xs lo hi)) fun l H' => Q (.ref l) H') : rSlG K (.ref p) lo hi H Q := .inl ⟨p, xs, rfl, h, q⟩
theorem g_slT {lo hi : Option Int} (h : SqT K H p xs) (hw : ¬ (HT.sIx xs.length 0 lo = 0 ∧ HT.sIx xs.length xs.length hi = xs.length)) (q : New H (.tup (cutV xs lo hi)) fun l H' => Q (.ref l) H') : rSlG K (.ref p) lo hi H Q :=
  .inr (.inl ⟨p, xs, rfl, h, fun e => absurd e hw, fun _ => q⟩)
theorem g_slS {lo hi : Option Int} (hl : s.length ≤ sizeLine) (q : Q (.str (cutS s lo hi)) H) : rSlG K (.str s) lo hi H Q := .inr (.inr ⟨s, rfl, hl, q⟩)
theorem g_rev (h : ta σ H fun x H1 => ∃ a xs, x = .ref a ∧ SqL K H1 a xs ∧ New H1 (.lst xs.reverse) fun p H' => Q (.ref p) H') : tRevG K ta σ H Q := h
theorem g_revL {R : List V → Prop} (h : SqL K H a xs) (q : R xs) : ∃ a' xs, V.ref a = .ref a' ∧ SqL K H a' xs ∧ R xs := ⟨a, xs, rfl, h, q⟩
/-- tests -/
theorem g_T {A B : Prop} {b : Bool} (hb : b = true) (h : A) : if b = true then A else B := by rw [if_pos hb]; exact h
theorem g_F {A B : Prop} {b : Bool} (hb : b = false) (h : B) : if b = true then A else B := by rw [if_neg (by rw [hb]; decide)]; exact h
theorem g_ite {A B : Prop} {b : Bool} (h1 : b = true → A) (h2 : b = false → B) : if b = true then A else B := by
  cases b
  · exact h2 rfl
  · exact h1 rfl
end

section
variable {K : PySem.W.Frag} {w : World} {H : Hp} {v : V} {i j : Int} {p a b : Addr} {xs ys : List V} {Q : VK}
theorem Chg.refl : Chg p H H := fun _ _ _ e => e
theorem Chg.trans {H1 H2 : Hp} (h : Chg p H H1) (h' : Chg p H1 H2) : Chg p H H2 := fun b o n e => h' b o n (h b o n e)
theorem Chg.same {H1 : Hp} (h : Same H H1) : Chg p H H1 := fun b o _ e => h b o e
/-- changes at a new object are none of the old ones -/
theorem Same.chg {H1 H2 : Hp} (h : Same H H1) (hp : H p = none) (c : Chg p H1 H2) : Same H H2 := fun b o e => c b o (ne_of_none e hp) (h b o e)
theorem atI_of {α : Type} {xs : List α} {i : Int} {v : α} (h0 : 0 ≤ i) (h : xs[i.toNat]? = some v) : atI xs i = some v := by
  have := atI_nat h
  rwa [Int.toNat_of_nonneg h0] at this
theorem atI_in {α : Type} {xs : List α} {i : Int} (h0 : 0 ≤ i) (h1 : i < xs.length) : ∃ v, atI xs i = some v ∧ v ∈ xs ∧ xs[i.toNat]? = some v := by
  have h2 : i.toNat < xs.length := by omega
  exact ⟨xs[i.toNat], atI_of h0 (List.getElem?_eq_getElem h2), List.getElem_mem h2, List.getElem?_eq_getElem h2⟩
end
/-! ### loops and comprehensions, by what holds at their turns -/
section
variable {K : PySem.W.Frag} {w : World} {H : Hp} {Q : VK} {p : Addr} {ss : List Str} {k : Str}
theorem inV_str : ∀ ss : List Str, inV (.str k) (ss.map V.str) = decide (k ∈ ss)
  | [] => by simp [inV]
  | s :: ss => by
    have ih := inV_str ss
    unfold inV at ih ⊢
    rw [List.map_cons, List.any_cons, ih]
    show (s == k || decide (k ∈ ss)) = _
    by_cases e : s = k
    · subst e; simp
    · have e' : ¬ k = s := fun z => e z.symm
      rw [show (s == k) = false from by simp [e]]
      simp [e']
theorem flat_strs : ∀ ss : List Str, (ss.map V.str).all flatV = true
  | [] => rfl
  | s :: ss => by rw [List.map_cons, List.all_cons, flat_strs ss]; rfl
theorem g_inL (h : SqL K H p (ss.map V.str)) (q : Q (.bl (decide (k ∈ ss))) H) : rInG K w false (.str k) (.ref p) H Q :=
  .inl ⟨p, ss.map V.str, rfl, .inl h, rfl, flat_strs ss, by rw [inV_str]; exact q⟩
theorem g_isi {x : V} {a b : String} {r : Bool} (ty : TyOf K H x (.type a)) (h : kitB a b = some r) (q : Q (.bl r) H) : rIsiG K [x, .ty b] H Q := ⟨x, .ty b, .type a, .type b, r, rfl, .ty b, .base ty, kit_ty h, q⟩
end
/-! what is walked -/
section
variable {K : PySem.W.Frag} {te : TE} {ta : TA} {σ : L2.St} {H : Hp} {R : It → Hp → Prop} {n : Int} {p : Addr} {xs : List V} {x : Str}
theorem g_rng1 (h : ta σ H fun vs H1 => ∃ j : Int, vs = [.int j] ∧ -(2 ^ 62) ≤ j ∧ j < 2 ^ 62 ∧ R (Itr 0 j.toNat) H1) : iRng1 ta σ H R := h
theorem g_isrng {R : Int → Prop} (h1 : -(2 ^ 62) ≤ n) (h2 : n < 2 ^ 62) (q : R n) : ∃ j : Int, [V.int n] = [.int j] ∧ -(2 ^ 62) ≤ j ∧ j < 2 ^ 62 ∧ R j := ⟨n, rfl, h1, h2, q⟩
theorem g_seqL (h : te σ H fun x H1 => ∃ a, x = .ref a ∧ (∃ xs, SqL K H1 a xs) ∧ R (Itl K a) H1) : iSeq K te σ H R := .inl h
theorem g_seqT (h : te σ H fun x H1 => ∃ a, x = .ref a ∧ (∃ xs, SqT K H1 a xs) ∧ R (Itt K a) H1) : iSeq K te σ H R := .inr (.inl h)
theorem g_isL {R : Addr → Prop} (h : SqL K H p xs) (q : R p) : ∃ a, V.ref p = .ref a ∧ (∃ xs, SqL K H a xs) ∧ R a := ⟨p, rfl, ⟨xs, h⟩, q⟩
theorem g_isT {R : Addr → Prop} (h : SqT K H p xs) (q : R p) : ∃ a, V.ref p = .ref a ∧ (∃ xs, SqT K H a xs) ∧ R a := ⟨p, rfl, ⟨xs, h⟩, q⟩
theorem g_isS {R : Str → Prop} (q : R x) : ∃ y, V.str x = .str y ∧ R y := ⟨x, rfl, q⟩
def LcW (J : It) (g : TG) (tt : TT) (te : TE) (vs : List Nat) (σ : L2.St) (H1 : Hp) (D : Addr) (Qd : Hp → Prop) : Prop := ∃ W : Nat → Nat → Hp → Prop, (∃ m, W 0 m (upd H1 D (.lst []))) ∧ ∀ i m H, W i m H →
  (J.stop i H ∧ Qd H) ∨ (J.go i H ∧ ∃ Nx : Hp → Prop, (∀ H', Nx H' → ∃ m', m' < m ∧ W (i + 1) m' H') ∧ ∀ x H', J.yld i H x H' → g x (wipe σ vs) H' fun σ2 H2 => wipe σ2 vs = wipe σ vs ∧ tt σ2 H2 fun b H3 =>
    if b = true then te σ2 H3 fun y H4 => ∃ acc, H4 D = some (.lst acc) ∧ acc.length < sizeLine ∧ Nx (upd H4 D (.lst (acc ++ [y]))) else Nx H3)
def LcR (J : It) (g : TG) (tt : TT) (te : TE) (vs : List Nat) (σ : L2.St) (H1 : Hp) (R : Addr → Hp → Prop) : Prop := ∀ D, H1 D = none → LcW J g tt te vs σ H1 D (R D)
def ForW (J : It) (g : TG) (tb : TS) (D : Ends) (σ : L2.St) (H1 : Hp) : Prop := ∃ W : Nat → Nat → L2.St → Hp → Prop, (∃ m, W 0 m σ H1) ∧ ∀ i m σ H, W i m σ H →
  (J.stop i H ∧ D.nx σ H) ∨ (J.go i H ∧ ∃ N : L2.St → Hp → Prop, (∀ σ' H', N σ' H' → ∃ m', m' < m ∧ W (i + 1) m' σ' H') ∧ ∀ x H', J.yld i H x H' → g x σ H' fun σ2 H2 => tb { D with nx := N, ct := N, bk := D.nx } σ2 H2)
theorem g_lc {g : TG} {tt : TT} {vs : List Nat} {wi : TI} {Q : VK} (h : wi σ H fun J H1 => LcR J g tt te vs σ H1 fun D H => Q (.ref D) H) : tLc wi g tt te vs σ H Q := h
theorem g_for {g : TG} {wi : TI} {tb : TS} {D : Ends} (h : wi σ H fun J H1 => ForW J g tb D σ H1) : tFor wi g tb D σ H := h
theorem g_yes {Q : Bool → Hp → Prop} (q : Q true H) : tYes σ H Q := q
end
section
variable {J : It} {g : TG} {tb : TS} {D : Ends} {σ : L2.St} {H H1 : Hp} {tt : TT} {te : TE} {vs : List Nat} {d : Addr} {Qd : Hp → Prop}
theorem for_any (n : Nat) (Pv : Nat → L2.St → Hp → Prop) (h0 : Pv 0 σ H) (hgo : ∀ i σ H, i < n → Pv i σ H → J.go i H) (hstop : ∀ σ H, Pv n σ H → J.stop n H)
    (hs : ∀ i x σ H H', i < n → Pv i σ H → J.yld i H x H' → g x σ H' fun σ2 H2 => tb { D with nx := Pv (i + 1), ct := Pv (i + 1), bk := D.nx } σ2 H2) (hd : ∀ σ H, Pv n σ H → D.nx σ H) :
    ForW J g tb D σ H := by
  refine ⟨fun i m σ H => Pv i σ H ∧ i ≤ n ∧ m = n - i, ⟨n, h0, Nat.zero_le _, rfl⟩, fun i m σ H ⟨hp, hi, hm⟩ => ?_⟩
  by_cases hin : i = n
  · subst hin
    exact .inl ⟨hstop _ _ hp, hd _ _ hp⟩
  · have hlt : i < n := by omega
    exact .inr ⟨hgo _ _ _ hlt hp, Pv (i + 1), fun σ' H' h' => ⟨n - (i + 1), by omega, h', hlt, rfl⟩, fun x H' hy => hs i x σ H H' hlt hp hy⟩
/-- the list at d behind the i-th turn -/
def NxR (R : Nat → List V → Hp → Prop) (d : Addr) (i : Nat) (H : Hp) : Prop := ∃ acc, H d = some (.lst acc) ∧ acc.length ≤ i ∧ R i acc H
theorem lc_step {R : Nat → List V → Hp → Prop} {i : Nat} {acc : List V} {y : V} (h : H d = some (.lst acc)) (hl : acc.length ≤ i) (hi : i < sizeLine) (q : Put H d (.lst (acc ++ [y])) fun H5 => R (i + 1) (acc ++ [y]) H5) :
    ∃ acc, H d = some (.lst acc) ∧ acc.length < sizeLine ∧ NxR R d (i + 1) (upd H d (.lst (acc ++ [y]))) :=
  ⟨acc, h, Nat.lt_of_le_of_lt hl hi, acc ++ [y], upd_same, by rw [List.length_append, List.length_singleton]; omega, q.at⟩
theorem lc_any (n : Nat) (R : Nat → List V → Hp → Prop) (hD : H1 d = none) (h0 : ∀ H', H' d = some (.lst []) → Same H1 H' → R 0 [] H') (hgo : ∀ i acc H, i < n → R i acc H → J.go i H) (hstop : ∀ acc H, R n acc H → J.stop n H)
    (hs : ∀ i x acc H H', i < n → acc.length ≤ i → R i acc H → H d = some (.lst acc) → J.yld i H x H' → g x (wipe σ vs) H' fun σ2 H2 => wipe σ2 vs = wipe σ vs ∧ tt σ2 H2 fun b H3 =>
      if b = true then te σ2 H3 fun y H4 => ∃ acc, H4 d = some (.lst acc) ∧ acc.length < sizeLine ∧ NxR R d (i + 1) (upd H4 d (.lst (acc ++ [y]))) else NxR R d (i + 1) H3)
    (hd : ∀ acc H, H d = some (.lst acc) → R n acc H → Qd H) :
    LcW J g tt te vs σ H1 d Qd := by
  refine ⟨fun i m H => NxR R d i H ∧ i ≤ n ∧ m = n - i, ⟨n, ⟨[], upd_same, Nat.le_refl _, h0 _ upd_same (same_upd hD)⟩, Nat.zero_le _, rfl⟩, fun i m H ⟨⟨acc, ha, hl, hr⟩, hi, hm⟩ => ?_⟩
  by_cases hin : i = n
  · subst hin
    exact .inl ⟨hstop _ _ hr, hd _ _ ha hr⟩
  · have hlt : i < n := by omega
    exact .inr ⟨hgo _ _ _ hlt hr, NxR R d (i + 1), fun H' h' => ⟨n - (i + 1), by omega, h', hlt, rfl⟩, fun x H' hy => hs i x acc H H' hlt hl hr ha hy⟩
end

/-! ### data of tuples alone -/
mutual
inductive Tp (H : Hp) : V → PyData → Prop
  | non : Tp H .non .none
  | bl (b : Bool) : Tp H (.bl b) (.bool b)
  | int (i : Int) : Tp H (.int i) (.int i)
  | str (x : Str) : Tp H (.str x) (.str x)
  | tup {a : Addr} {xs : List V} {ds : List PyData} : H a = some (.tup xs) → Tps H xs ds → Tp H (.ref a) (.tuple ds)
inductive Tps (H : Hp) : List V → List PyData → Prop
  | nil : Tps H [] []
  | cons {v : V} {vs : List V} {d : PyData} {ds : List PyData} : Tp H v d → Tps H vs ds → Tps H (v :: vs) (d :: ds)
end
/-- the tuples stay -/
def Tk (H H' : Hp) : Prop := ∀ b xs, H b = some (.tup xs) → H' b = some (.tup xs)
theorem Tk.refl (H : Hp) : Tk H H := fun _ _ e => e
theorem Tk.trans {H H1 H2 : Hp} (a : Tk H H1) (b : Tk H1 H2) : Tk H H2 := fun c xs e => b c xs (a c xs e)
theorem Same.tk {H H' : Hp} (s : Same H H') : Tk H H' := fun b xs e => s b _ e
theorem Chg.tk {H H' : Hp} {a : Addr} (c : Chg a H H') (h : ∀ xs, H a ≠ some (.tup xs)) : Tk H H' := fun b xs e => c b _ (fun z => h xs (z ▸ e)) e
theorem Chg.tkl {H H' : Hp} {a : Addr} {ys : List V} (c : Chg a H H') (h : H a = some (.lst ys)) : Tk H H' := c.tk fun xs e => by rw [h] at e; cases e
mutual
theorem Tp.mono {H H' : Hp} (k : Tk H H') : ∀ {d : PyData} {v : V}, Tp H v d → Tp H' v d
  | .none, _, h => by cases h; exact .non
  | .bool b, _, h => by cases h; exact .bl b
  | .int i, _, h => by cases h; exact .int i
  | .str x, _, h => by cases h; exact .str x
  | .tuple ds, _, h => by
    cases h with
    | tup e r => exact .tup (k _ _ e) (Tps.mono k r)
  | .list ds, _, h => by cases h
  | .dict ds, _, h => by cases h
theorem Tps.mono {H H' : Hp} (k : Tk H H') : ∀ {ds : List PyData} {vs : List V}, Tps H vs ds → Tps H' vs ds
  | [], _, h => by cases h; exact .nil
  | d :: ds, _, h => by
    cases h with
    | cons a b => exact .cons (Tp.mono k a) (Tps.mono k b)
end
mutual
theorem Tp.dp {K : PySem.W.Frag} {H : Hp} : ∀ {d : PyData} {v : V}, Tp H v d → Dp K H v d
  | .none, _, h => by cases h; exact .non
  | .bool b, _, h => by cases h; exact .bl b
  | .int i, _, h => by cases h; exact .int i
  | .str x, _, h => by cases h; exact .str x
  | .tuple ds, _, h => by
    cases h with
    | tup e r => exact .tup (.of e) (Tps.dp r)
  | .list ds, _, h => by cases h
  | .dict ds, _, h => by cases h
theorem Tps.dp {K : PySem.W.Frag} {H : Hp} : ∀ {ds : List PyData} {vs : List V}, Tps H vs ds → DpAll K H vs ds
  | [], _, h => by cases h; exact .nil
  | d :: ds, _, h => by
    cases h with
    | cons a b => exact .cons (Tp.dp a) (Tps.dp b)
end
section
variable {H : Hp} {xs ys : List V} {ds es : List PyData} {v : V} {d : PyData}
theorem Tps.length : ∀ {xs : List V} {ds : List PyData}, Tps H xs ds → xs.length = ds.length
  | [], _, h => by cases h; rfl
  | x :: xs, _, h => by
    cases h with
    | cons a b => rw [List.length_cons, List.length_cons, Tps.length b]
theorem Tps.append : ∀ {xs : List V} {ds : List PyData}, Tps H xs ds → Tps H ys es → Tps H (xs ++ ys) (ds ++ es)
  | [], _, h, h2 => by cases h; exact h2
  | x :: xs, _, h, h2 => by
    cases h with
    | cons a b => exact .cons a (Tps.append b h2)
theorem Tps.one (h : Tp H v d) : Tps H [v] [d] := .cons h .nil
theorem Tps.get : ∀ {xs : List V} {ds : List PyData} {i : Nat} {v : V}, Tps H xs ds → xs[i]? = some v → ∃ d, ds[i]? = some d ∧ Tp H v d
  | [], _, i, v, _, e => by simp at e
  | x :: xs, _, 0, v, h, e => by
    cases h with
    | cons a b =>
      simp only [List.getElem?_cons_zero, Option.some.injEq] at e
      subst e
      exact ⟨_, rfl, a⟩
  | x :: xs, _, i + 1, v, h, e => by
    cases h with
    | cons a b =>
      rw [List.getElem?_cons_succ] at e
      obtain ⟨d, h1, h2⟩ := Tps.get b e
      exact ⟨d, by rw [List.getElem?_cons_succ]; exact h1, h2⟩
theorem Tps.at : ∀ {xs : List V} {ds : List PyData} {i : Nat} {d : PyData}, Tps H xs ds → ds[i]? = some d → ∃ v, xs[i]? = some v ∧ Tp H v d
  | xs, [], i, d, _, e => by simp at e
  | _, d0 :: ds, 0, d, h, e => by
    cases h with
    | cons a b =>
      simp only [List.getElem?_cons_zero, Option.some.injEq] at e
      subst e
      exact ⟨_, rfl, a⟩
  | _, d0 :: ds, i + 1, d, h, e => by
    cases h with
    | cons a b =>
      rw [List.getElem?_cons_succ] at e
      obtain ⟨v, h1, h2⟩ := Tps.at b e
      exact ⟨v, by rw [List.getElem?_cons_succ]; exact h1, h2⟩
theorem Tps.take : ∀ {xs : List V} {ds : List PyData} (n : Nat), Tps H xs ds → Tps H (xs.take n) (ds.take n)
  | _, _, 0, _ => .nil
  | [], _, n + 1, h => by cases h; exact .nil
  | x :: xs, _, n + 1, h => by
    cases h with
    | cons a b => exact .cons a (Tps.take n b)
theorem Tps.drop : ∀ {xs : List V} {ds : List PyData} (n : Nat), Tps H xs ds → Tps H (xs.drop n) (ds.drop n)
  | _, _, 0, h => h
  | [], _, n + 1, h => by cases h; exact .nil
  | x :: xs, _, n + 1, h => by
    cases h with
    | cons a b => exact Tps.drop n b
theorem Tps.reverse : ∀ {xs : List V} {ds : List PyData}, Tps H xs ds → Tps H xs.reverse ds.reverse
  | [], _, h => by cases h; exact .nil
  | x :: xs, _, h => by
    cases h with
    | cons a b =>
      rw [List.reverse_cons, List.reverse_cons]
      exact Tps.append (Tps.reverse b) (.one a)
theorem Tps.strs : ∀ ss : List Str, Tps H (ss.map V.str) (ss.map PyData.str)
  | [] => .nil
  | s :: ss => .cons (.str s) (Tps.strs ss)
theorem Tps.ints : ∀ ss : List Int, Tps H (ss.map V.int) (ss.map PyData.int)
  | [] => .nil
  | s :: ss => .cons (.int s) (Tps.ints ss)
end
def isName (s : Str) : Prop := 1 ≤ s.length ∧ s.length ≤ 8 ∧ ∀ c ∈ s.cps.toList, 97 ≤ c ∧ c < 123
/-! ### parts -/
inductive K1 | left | right
  deriving DecidableEq
def K1.word : K1 → Str
  | .left => "left"
  | .right => "right"
inductive K2 | give | plus | less | times | below | pair
  deriving DecidableEq
def K2.word : K2 → Str
  | .give => "give"
  | .plus => "plus"
  | .less => "less"
  | .times => "times"
  | .below => "below"
  | .pair => "pair"
mutual
inductive Part
  | num (n : Int) | name (x : Str) | fn (f : Str) | one (k : K1) (a : Part) | two (k : K2) (a b : Part) | whn (a b c : Part) | letp (r : Rows) (a : Part) | shut (a : Part)
inductive Rows
  | nil | cons (x : Str) (a : Part) (r : Rows)
end
mutual
def Part.data : Part → PyData
  | .num n => .tuple [.str "number", .int n]
  | .name x => .tuple [.str "name", .str x]
  | .fn f => .tuple [.str "fun", .str f]
  | .one k a => .tuple [.str k.word, a.data]
  | .two k a b => .tuple [.str k.word, a.data, b.data]
  | .whn a b c => .tuple [.str "when", a.data, b.data, c.data]
  | .letp r a => .tuple [.str "let", .tuple r.datas, a.data]
  | .shut a => .tuple [.str "shut", a.data]
def Rows.datas : Rows → List PyData
  | .nil => []
  | .cons x a r => .tuple [.str x, a.data] :: r.datas
end
mutual
/-- how many parts -/
def Part.size : Part → Nat
  | .num _ => 1
  | .name _ => 1
  | .fn _ => 1
  | .one _ a => 1 + a.size
  | .two _ a b => 1 + (a.size + b.size)
  | .whn a b c => 1 + (a.size + (b.size + c.size))
  | .letp r a => 1 + (r.size + a.size)
  | .shut _ => 1
def Rows.size : Rows → Nat
  | .nil => 0
  | .cons _ a r => a.size + r.size
end
mutual
def Part.deep : Part → Nat
  | .num _ => 1
  | .name _ => 1
  | .fn _ => 1
  | .one _ a => 1 + a.deep
  | .two _ a b => 1 + max a.deep b.deep
  | .whn a b c => 1 + max a.deep (max b.deep c.deep)
  | .letp r a => 1 + max r.deep a.deep
  | .shut _ => 1
def Rows.deep : Rows → Nat
  | .nil => 0
  | .cons _ a r => max a.deep r.deep
end
def Rows.names : Rows → List Str
  | .nil => []
  | .cons x _ r => x :: r.names
def Rows.parts : Rows → List Part
  | .nil => []
  | .cons _ a r => a :: r.parts
def Rows.app : Rows → Rows → Rows
  | .nil, s => s
  | .cons x a r, s => .cons x a (r.app s)
def Part.kids : Part → List Part
  | .num _ => []
  | .name _ => []
  | .fn _ => []
  | .one _ a => [a]
  | .two _ a b => [a, b]
  | .whn a b c => [a, b, c]
  | .letp r a => r.parts ++ [a]
  | .shut _ => []
mutual
/-- the names of the rows of all lets, in the order of places -/
def Part.rowNames : Part → List Str
  | .num _ => []
  | .name _ => []
  | .fn _ => []
  | .one _ a => a.rowNames
  | .two _ a b => a.rowNames ++ b.rowNames
  | .whn a b c => a.rowNames ++ (b.rowNames ++ c.rowNames)
  | .letp r a => r.names ++ (r.rowNames ++ a.rowNames)
  | .shut _ => []
def Rows.rowNames : Rows → List Str
  | .nil => []
  | .cons _ a r => a.rowNames ++ r.rowNames
end
mutual
/-- a part of a program: names in scope, funs there, small numbers, one to four rows -/
def Part.ok (fs : List Str) : List Str → Part → Prop
  | sc, .num n => n.natAbs < 10 ^ 60
  | sc, .name x => x ∈ sc ∧ isName x
  | sc, .fn f => f ∈ fs ∧ isName f
  | sc, .one _ a => a.ok fs sc
  | sc, .two _ a b => a.ok fs sc ∧ b.ok fs sc
  | sc, .whn a b c => a.ok fs sc ∧ b.ok fs sc ∧ c.ok fs sc
  | sc, .letp r a => r.names.length ≤ 4 ∧ r.names ≠ [] ∧ (∀ x ∈ r.names, isName x) ∧ r.ok fs (sc ++ r.names) ∧ a.ok fs (sc ++ r.names)
  | _, .shut _ => False
def Rows.ok (fs : List Str) : List Str → Rows → Prop
  | _, .nil => True
  | sc, .cons _ a r => a.ok fs sc ∧ r.ok fs sc
end
theorem Rows.app_datas : ∀ r s : Rows, (r.app s).datas = r.datas ++ s.datas
  | .nil, s => rfl
  | .cons x a r, s => by
    show _ :: (r.app s).datas = _
    rw [Rows.app_datas r s]
    rfl
theorem Rows.app_names : ∀ r s : Rows, (r.app s).names = r.names ++ s.names
  | .nil, s => rfl
  | .cons x a r, s => by
    show _ :: (r.app s).names = _
    rw [Rows.app_names r s]
    rfl
theorem Rows.app_size : ∀ r s : Rows, (r.app s).size = r.size + s.size
  | .nil, s => by show s.size = 0 + s.size; omega
  | .cons x a r, s => by
    show _ + (r.app s).size = _ + r.size + _
    rw [Rows.app_size r s]
    omega
theorem Rows.app_deep : ∀ r s : Rows, (r.app s).deep = max r.deep s.deep
  | .nil, s => by show s.deep = max 0 s.deep; omega
  | .cons x a r, s => by
    show max _ (r.app s).deep = max (max _ r.deep) _
    rw [Rows.app_deep r s]
    omega
theorem Rows.app_rowNames : ∀ r s : Rows, (r.app s).rowNames = r.rowNames ++ s.rowNames
  | .nil, s => rfl
  | .cons x a r, s => by
    show _ ++ (r.app s).rowNames = (_ ++ r.rowNames) ++ _
    rw [Rows.app_rowNames r s, List.append_assoc]
theorem Rows.app_ok {fs : List Str} : ∀ {sc : List Str} {r s : Rows}, r.ok fs sc → s.ok fs sc → (r.app s).ok fs sc
  | sc, .nil, s, _, h => h
  | sc, .cons x a r, s, h, h2 => ⟨h.1, Rows.app_ok h.2 h2⟩

/-! ### written tables, from what the top has left -/
theorem keys_miss {P : Params} {z : Str} : ∀ {l : List DictEntry} {ks : List Str}, l.map He.keyOf = He.keysIn P ks → z ∉ ks → l.find? (·.key.isStr z) = none ∧ l.any (·.refKey) = false
  | [], _, _, _ => ⟨rfl, rfl⟩
  | e :: r, [], h, _ => by cases h
  | e :: r, k :: ks, h, hz => by
    have h1 : He.keyOf e :: r.map He.keyOf = some (k, PyData.keyHash P k) :: He.keysIn P ks := h
    injection h1 with h2 h3
    obtain ⟨i1, i2⟩ := keys_miss h3 fun m => hz (List.mem_cons_of_mem _ m)
    unfold He.keyOf at h2
    split at h2
    · rename_i x t q
      obtain ⟨h5, h6⟩ := Prod.mk.inj (Option.some.inj h2)
      have hne : ¬ x = z := fun e => hz (by rw [← e, h5]; exact List.mem_cons_self ..)
      refine ⟨?_, ?_⟩
      · rw [List.find?_cons, show e.key.isStr z = false from by rw [q, PySem.W.isStr_of]; show (x == z) = false; simp [hne]]
        exact i1
      · rw [List.any_cons, i2, Bool.or_false]
        unfold DictEntry.refKey
        rw [q]
    · cases h2
theorem ktab_of {K : PySem.W.Frag} {w : World} {a : Addr} {kvs : List (Str × He.Dv)} (h : He.dicW K a = some (He.keysIn w.params (kvs.map (·.1)))) (hv : He.valsB K a kvs = true) : KTab K w a (kvs.map fun q => (q.1, q.2.v K)) := by
  intro z
  obtain ⟨es, n, D⟩ := He.dicW_ok h
  refine ⟨es, n, D, ?_⟩
  by_cases hz : z ∈ kvs.map (·.1)
  · right
    obtain ⟨q0, hq0, rfl⟩ := List.mem_map.mp hz
    cases hf : kvs.find? (fun q => decide (q.1 = q0.1)) with
    | none =>
      have := List.find?_eq_none.mp hf q0 hq0
      simp at this
    | some q =>
      have hq := List.mem_of_find?_eq_some hf
      have hqe := List.find?_some hf
      have hqe := of_decide_eq_true hqe
      obtain ⟨u, h1, h2⟩ := He.valsB_ok hv hq
      refine ⟨u, q.2.v K, ?_, by rw [← hqe]; exact h1, h2⟩
      rw [List.find?_map]
      show Option.map _ (Option.map _ (kvs.find? fun q => decide (q.1 = q0.1))) = _
      rw [hf]
      rfl
  · left
    have hl : es.toList.map He.keyOf = He.keysIn w.params (kvs.map (·.1)) := by
      unfold He.dicW at h
      rw [D.at_] at h
      dsimp only at h
      split at h
      · exact Option.some.inj h
      · cases h
    obtain ⟨i1, i2⟩ := keys_miss hl hz
    refine ⟨?_, ?_⟩
    · rw [List.find?_map]
      show Option.map _ (Option.map _ (kvs.find? fun q => decide (q.1 = z))) = _
      rw [show kvs.find? (fun q => decide (q.1 = z)) = none from List.find?_eq_none.mpr fun q hq e => hz (by rw [← of_decide_eq_true e]; exact List.mem_map.mpr ⟨q, hq, rfl⟩)]
      rfl
    · unfold PySem.W.nsIn
      rw [D.at_]
      dsimp only
      rw [i1]
      dsimp only
      rw [i2]
      rfl
theorem tab_at {fa : List He.Fa} {fn : List He.DefD} {ts : List He.Tab} {w : World} {K : PySem.W.Frag} (c : He.SaysT fa fn ts w K) (i : Nat) {t : He.Tab} (h : ts[i]? = some t) : He.dicW K (t.1 K) = some (He.keysIn w.params t.2) := by
  have e : ts.map (fun t => He.dicW K (t.1 K)) = ts.map fun t => some (He.keysIn w.params t.2) := congrArg (fun z : He.AlT => z.2) c
  have e2 : (ts.map fun t => He.dicW K (t.1 K))[i]? = (ts.map fun t => some (He.keysIn w.params t.2))[i]? := by rw [e]
  rw [List.getElem?_map, List.getElem?_map, h] at e2
  exact Option.some.inj e2

/-! ### more methods of lists -/
section
variable {X : Cx}
def rClearG : V → List V → Hp → VK → Prop := fun x vs H Q => ∃ l xs, x = .ref l ∧ vs = [] ∧ H l = some (.lst xs) ∧ Put H l (.lst []) fun H' => Q .non H'
/-! dicts: a copy, a clearing -/
def rDClearG : V → List V → Hp → VK → Prop := fun x vs H Q => ∃ (a : Addr) (kvs : List (Key × V)), x = .ref a ∧ vs = [] ∧ H a = some (.dK kvs) ∧ Put H a (.dK []) fun H' => Q .non H'
def rDictG : List V → Hp → VK → Prop := fun xs H Q => ∃ (a : Addr) (kvs : List (Key × V)), xs = [.ref a] ∧ H a = some (.dK kvs) ∧ New H (.dK kvs) fun p H' => Q (.ref p) H'
/-- a list so many times -/
def rRepG : R2 := fun x y H Q => ∃ l k xs, x = .ref l ∧ y = .int k ∧ H l = some (.lst xs) ∧ -(2 ^ 63) ≤ k ∧ k < 2 ^ 63 ∧ xs.length * k.toNat ≤ sizeLine ∧ New H (.lst (List.replicate k.toNat xs).flatten) fun p H' => Q (.ref p) H'
/-- a statement that is never come to -/
def tNever : TS := fun _ _ _ => False
/-- dict(l) of a list of pairs -/
def rDictP (K : PySem.W.Frag) : List V → Hp → VK → Prop := fun xs H Q => ∃ (a : Addr) (ps : List Addr) (kvs : List (Key × V)), xs = [.ref a] ∧ SqL K H a (ps.map V.ref) ∧ Paired (fun p kv => SqT K H p [kV kv.1, kv.2]) ps kvs ∧ New H (.dK (mergeK [] kvs)) fun p H' => Q (.ref p) H'
end
section
variable {K : PySem.W.Frag} {w : World} {H : Hp} {Q : VK} {a : Addr} {xs : List V} {ss : List Str} {k : Str} {j : Nat} {R : It → Hp → Prop} {σ : L2.St} {ta : TA}
/-- the place of a text among unlike ones -/
theorem g_indexS (h : SqL K H a (ss.map V.str)) (nd : ss.Nodup) (e : ss[j]? = some k) (q : Q (.int (j : Nat)) H) : rIndex K (.ref a) [.str k] H Q := by
  refine ⟨a, ss.map V.str, .str k, j, .str k, rfl, rfl, h, rfl, flat_strs ss, by rw [List.getElem?_map, e]; rfl, by simp [eqV], fun m z' hm hz => ?_, q⟩
  rw [List.getElem?_map] at hz
  obtain ⟨s, hs, rfl⟩ := Option.map_eq_some_iff.mp hz
  show (s == k) = false
  have hne : s ≠ k := by
    rintro rfl
    obtain ⟨h1, h2⟩ := List.getElem?_eq_some_iff.mp hs
    obtain ⟨h3, h4⟩ := List.getElem?_eq_some_iff.mp e
    have := (List.pairwise_iff_getElem.mp nd) m j h1 h3 hm
    exact this (h2.trans h4.symm)
  simpa using hne
end

/-! ### what is known of a heap, from the heaps ahead -/
section
variable {H H1 H' : Hp} {a b d p : Addr} {o : HO} {xs ys : List V}
theorem Same.to (s : Same H H') (h : H b = some o) : H' b = some o := s b o h
theorem Chg.to (c : Chg a H H') (h : H b = some o) (n : b ≠ a) : H' b = some o := c b o n h
theorem Tk.to (k : Tk H H') (h : H b = some (.tup xs)) : H' b = some (.tup xs) := k b xs h
/-- nothing is at p (a word of its own, so that it is found by its heap) -/
def Fr (H : Hp) (p : Addr) : Prop := H p = none
theorem ne_fr (h : H b = some o) (h' : Fr H a) : b ≠ a := ne_of_none h h'
theorem New.mk {R : Addr → Hp → Prop} (h : ∀ p H', Fr H p → H' p = some o → Same H H' → R p H') : New H o R := h
theorem Put.mk {R : Hp → Prop} (h : ∀ H', H' a = some o → Chg a H H' → R H') : Put H a o R := h
theorem Chg.free (c : Chg a H H') (n : b ≠ a) (h : H' b = none) : H b = none := by
  cases e : H b with
  | none => rfl
  | some o => rw [c b o n e] at h; cases h
theorem Chg.fresh (i : Chg p H H1) (hd : H d = none) (c : Chg d H1 H') : Chg p H H' := fun b o hb e => c b o (ne_of_none e hd) (i b o hb e)
theorem Tk.same (i : Tk H H1) (s : Same H1 H') : Tk H H' := i.trans (Same.tk s)
theorem Tk.lst (i : Tk H H1) (c : Chg a H1 H') (h : H1 a = some (.lst ys)) : Tk H H' := i.trans (c.tkl h)
theorem Tk.dct {kvs : List (Key × V)} (i : Tk H H1) (c : Chg a H1 H') (h : H1 a = some (.dK kvs)) : Tk H H' := i.trans (c.tk fun xs e => by rw [h] at e; cases e)
theorem Same.more (i : Same H H1) (s : Same H1 H') : Same H H' := i.trans s
theorem Same.more2 (i : Same H H1) (c : Chg d H1 H') (h : H d = none) : Same H H' := Same.chg i h c
theorem Tp.to {v : V} {e : PyData} (h : Tp H v e) (k : Tk H H') : Tp H' v e := h.mono k
theorem Tps.to {vs : List V} {es : List PyData} (h : Tps H vs es) (k : Tk H H') : Tps H' vs es := h.mono k
end
section
variable {K : PySem.W.Frag} {w : World} {H : Hp} {v x y z : V} {i j k : Nat} {p a b : Addr} {xs ys : List V} {Q : VK} {σ : L2.St}
theorem g_ixTa {i : Int} (h : H p = some (.tup xs)) (e : xs[i.toNat]? = some v) (h0 : 0 ≤ i) (q : Q v H) : rIxG K w (.ref p) (.int i) H Q := g_ixT (.of h) (atI_of h0 e) q
theorem g_ixLa {i : Int} (h : H p = some (.lst xs)) (e : xs[i.toNat]? = some v) (h0 : 0 ≤ i) (q : Q v H) : rIxG K w (.ref p) (.int i) H Q := g_ixL (.of h) (atI_of h0 e) q
theorem g_isLa {R : Addr → Prop} (h : H p = some (.lst xs)) (q : R p) : ∃ a, V.ref p = .ref a ∧ (∃ xs, SqL K H a xs) ∧ R a := g_isL (.of h) q
theorem g_isTa {R : Addr → Prop} (h : H p = some (.tup xs)) (q : R p) : ∃ a, V.ref p = .ref a ∧ (∃ xs, SqT K H a xs) ∧ R a := g_isT (.of h) q
theorem g_inX {k : Str} {r : Bool} (h : H p = some (.tup xs)) (f : xs.all flatV = true) (e : inV (.str k) xs = r) (q : Q (.bl r) H) : rInG K w false (.str k) (.ref p) H Q := .inl ⟨p, xs, rfl, .inr (.of h), rfl, f, by rw [e]; exact q⟩
theorem g_notInX {k : Str} {r : Bool} (h : H p = some (.tup xs)) (f : xs.all flatV = true) (e : inV (.str k) xs = r) (q : Q (.bl (!r)) H) : rInG K w true (.str k) (.ref p) H Q := .inl ⟨p, xs, rfl, .inr (.of h), rfl, f, by rw [e]; exact q⟩
end
/-! comprehensions that make of each item one thing, where no old object changes -/
theorem Tps.of_get {H : Hp} : ∀ {us : List V} {ds : List PyData}, us.length = ds.length → (∀ (i : Nat) y, us[i]? = some y → ∃ d, ds[i]? = some d ∧ Tp H y d) → Tps H us ds
  | [], [], _, _ => .nil
  | u :: us, d :: ds, hl, h => by
    refine .cons ?_ (Tps.of_get (Nat.succ.inj hl) fun i y hy => h (i + 1) y hy)
    obtain ⟨d', h1, h2⟩ := h 0 u rfl
    cases h1
    exact h2
section
variable {K : PySem.W.Frag} {H1 : Hp} {g : TG} {te : TE} {vs : List Nat} {σ : L2.St} {a : Addr} {xs : List V} {Qd : Addr → Hp → Prop} {F : Nat → V → Hp → Prop}
theorem lc_map_any {J : It} (hJ1 : ∀ i H', i < xs.length → Same H1 H' → J.go i H') (hJ2 : ∀ H', Same H1 H' → J.stop xs.length H') (hJ3 : ∀ i H' x H2, Same H1 H' → J.yld i H' x H2 → H2 = H' ∧ xs[i]? = some x)
    (hl : xs.length ≤ 100000) (F : Nat → V → Hp → Prop) (hF : ∀ i y H H', Tk H H' → F i y H → F i y H')
    (hs : ∀ (i : Nat) x H' (Nx : V → Hp → Prop), xs[i]? = some x → Same H1 H' → (∀ y H4, Same H' H4 → F i y H4 → Nx y H4) → g x (wipe σ vs) H' fun σ2 H2 => wipe σ2 vs = wipe σ vs ∧ te σ2 H2 Nx)
    (hd : ∀ D (ys : List V) H', Fr H1 D → H' D = some (.lst ys) → ys.length = xs.length → (∀ (i : Nat) y, ys[i]? = some y → F i y H') → Same H1 H' → Qd D H') : LcR J g tYes te vs σ H1 Qd := by
  intro D hD
  refine lc_any xs.length (fun i acc H' => acc.length = i ∧ (∀ (j : Nat) y, acc[j]? = some y → F j y H') ∧ Same H1 H') hD (fun H' _ s => ⟨rfl, by simp, s⟩) (fun i acc H' hi ⟨_, _, s⟩ => hJ1 i H' hi s) (fun acc H' ⟨_, _, s⟩ => hJ2 H' s) ?_ ?_
  · rintro i x acc H2 H' hi hla ⟨ha, hf, s2⟩ hd2 hy
    obtain ⟨rfl, hx⟩ := hJ3 i _ _ _ s2 hy
    refine hs i x _ _ hx s2 fun y H4 s4 f4 => ?_
    refine lc_step (s4 _ _ hd2) hla (by show _ < 16777216; omega) fun H5 e5 c5 => ?_
    have k5 : Tk H4 H5 := c5.tkl (s4 _ _ hd2)
    refine ⟨by rw [List.length_append, ha]; rfl, fun j z hz => ?_, Same.chg (s2.trans s4) hD c5⟩
    by_cases hj : j < acc.length
    · rw [List.getElem?_append_left hj] at hz
      exact hF _ _ _ _ ((Same.tk s4).trans k5) (hf j z hz)
    · have hj2 : j < (acc ++ [y]).length := (List.getElem?_eq_some_iff.mp hz).1
      rw [List.length_append, List.length_singleton] at hj2
      have : j = acc.length := by omega
      subst this
      rw [List.getElem?_append_right (Nat.le_refl _), Nat.sub_self] at hz
      cases hz
      rw [ha]
      exact hF _ _ _ _ k5 f4
  · rintro acc H' hd2 ⟨ha, hf, s⟩
    exact hd D acc H' hD hd2 ha hf s
theorem lc_mapT (ea : H1 a = some (.tup xs)) (hl : xs.length ≤ 100000) (F : Nat → V → Hp → Prop) (hF : ∀ i y H H', Tk H H' → F i y H → F i y H')
    (hs : ∀ (i : Nat) x H' (Nx : V → Hp → Prop), xs[i]? = some x → Same H1 H' → (∀ y H4, Same H' H4 → F i y H4 → Nx y H4) → g x (wipe σ vs) H' fun σ2 H2 => wipe σ2 vs = wipe σ vs ∧ te σ2 H2 Nx)
    (hd : ∀ D (ys : List V) H', Fr H1 D → H' D = some (.lst ys) → ys.length = xs.length → (∀ (i : Nat) y, ys[i]? = some y → F i y H') → Same H1 H' → Qd D H') : LcR (Itt K a) g tYes te vs σ H1 Qd :=
  lc_map_any (xs := xs) (fun i H' hi s => ⟨_, _, .of (s _ _ ea), List.getElem?_eq_getElem hi⟩) (fun H' s => ⟨_, .of (s _ _ ea), Nat.le_refl _⟩) (fun i H' x H2 s ⟨e, hx⟩ => ⟨e, hx _ (.of (s _ _ ea))⟩) hl F hF hs hd
end
/-! for over a tuple, over a list that stays -/
section
variable {K : PySem.W.Frag} {g : TG} {tb : TS} {D : Ends} {σ : L2.St} {H : Hp} {a : Addr} {xs : List V}
theorem for_T (Pv : Nat → L2.St → Hp → Prop) (ha : ∀ i σ H', Pv i σ H' → H' a = some (.tup xs)) (h0 : Pv 0 σ H)
    (hs : ∀ (i : Nat) x σ H', xs[i]? = some x → Pv i σ H' → g x σ H' fun σ2 H2 => tb { D with nx := Pv (i + 1), ct := Pv (i + 1), bk := D.nx } σ2 H2) (hd : ∀ σ H', Pv xs.length σ H' → D.nx σ H') : ForW (Itt K a) g tb D σ H :=
  for_any xs.length Pv h0 (fun i σ H' hi p => ⟨_, _, .of (ha _ _ _ p), List.getElem?_eq_getElem hi⟩) (fun σ H' p => ⟨_, .of (ha _ _ _ p), Nat.le_refl _⟩)
    (fun i x σ H1 H2 hi p ⟨e, hx⟩ => by subst e; exact hs i x σ _ (hx _ (.of (ha _ _ _ p))) p) hd
theorem for_L (Pv : Nat → L2.St → Hp → Prop) (ha : ∀ i σ H', Pv i σ H' → H' a = some (.lst xs)) (h0 : Pv 0 σ H)
    (hs : ∀ (i : Nat) x σ H', xs[i]? = some x → Pv i σ H' → g x σ H' fun σ2 H2 => tb { D with nx := Pv (i + 1), ct := Pv (i + 1), bk := D.nx } σ2 H2) (hd : ∀ σ H', Pv xs.length σ H' → D.nx σ H') : ForW (Itl K a) g tb D σ H :=
  for_any xs.length Pv h0 (fun i σ H' hi p => ⟨_, _, .of (ha _ _ _ p), List.getElem?_eq_getElem hi⟩) (fun σ H' p => ⟨_, .of (ha _ _ _ p), Nat.le_refl _⟩)
    (fun i x σ H1 H2 hi p ⟨e, hx⟩ => by subst e; exact hs i x σ _ (hx _ (.of (ha _ _ _ p))) p) hd
end
section
variable {K : PySem.W.Frag} {w : World} {H H' : Hp} {Q : VK} {a b : Addr} {xs ys : List V} {kvs : List (Key × V)}
theorem g_dict (h : H a = some (.dK kvs)) (q : New H (.dK kvs) fun p H' => Q (.ref p) H') : rDictG [.ref a] H Q := ⟨a, kvs, rfl, h, q⟩
/-- a list and an empty one -/
theorem g_neNil (h : H a = some (.lst xs)) (h2 : H b = some (.lst [])) (q : Q (.bl (!xs.isEmpty)) H) : rNeG K (.ref a) (.ref b) H Q := by
  cases xs with
  | nil => exact .inr (.inr (.inr (.inl ⟨1, by decide, .inl ⟨a, b, [], [], rfl, rfl, .of h, .of h2, .nil⟩, q⟩)))
  | cons x xs => exact .inr (.inr (.inr (.inr ⟨a, b, _, _, rfl, rfl, .of h, .of h2, by simp, q⟩)))
theorem g_eqNil (h : H a = some (.lst xs)) (h2 : H b = some (.lst [])) (q : Q (.bl xs.isEmpty) H) : rEqG K (.ref a) (.ref b) H Q := by
  cases xs with
  | nil => exact .inr (.inr (.inr (.inl ⟨1, by decide, .inl ⟨a, b, [], [], rfl, rfl, .of h, .of h2, .nil⟩, q⟩)))
  | cons x xs => exact .inr (.inr (.inr (.inr ⟨a, b, _, _, rfl, rfl, .of h, .of h2, by simp, q⟩)))
def GTup (K : PySem.W.Frag) (a : Addr) (xs : List V) : Prop := ∀ H : Hp, SqT K H a xs
theorem g_inGT {k : Str} {r : Bool} (h : GTup K a xs) (f : xs.all flatV = true) (e : inV (.str k) xs = r) (q : Q (.bl r) H) : rInG K w false (.str k) (.ref a) H Q := .inl ⟨a, xs, rfl, .inr (h H), rfl, f, by rw [e]; exact q⟩
theorem g_neBI {i j : Int} (q : Q (.bl (!decide (i = j))) H) : rNeB K (.int i) (.int j) H Q := .inl (g_neI q)
theorem g_neBS {i j : Str} (q : Q (.bl (!decide (i = j))) H) : rNeB K (.str i) (.str j) H Q := .inl (g_neS q)
theorem g_eqBI {i j : Int} (q : Q (.bl (decide (i = j))) H) : rEqB K (.int i) (.int j) H Q := .inl (g_eqI q)
theorem g_eqBS {i j : Str} (q : Q (.bl (decide (i = j))) H) : rEqB K (.str i) (.str j) H Q := .inl (g_eqS q)
end
/-! ### zip of a list and a tuple, any of both -/
inductive Kd | lst | tup
/-- an iterator at p, at its k-th item of the object at l -/
def Feed (κ : Kd) (h : Heap) (p l : Addr) (k : Nat) (xs : Array Value) : Prop :=
  match κ with
  | .lst => h.IsListIter p l k ∧ h.IsList l xs
  | .tup => h.IsTupleIter p l k ∧ h.IsTuple l xs
theorem Feed.to {κ : Kd} {h h' : Heap} {p l : Addr} {k : Nat} {xs : Array Value} (f : Feed κ h p l k xs) (e1 : ∀ o, h.get? p = some o → h'.get? p = some o) (e2 : ∀ o, h.get? l = some o → h'.get? l = some o) : Feed κ h' p l k xs := by
  cases κ with
  | lst => exact ⟨f.1.at e1, f.2.at e2⟩
  | tup => exact ⟨f.1.at e1, f.2.at e2⟩
theorem Feed.lt {κ : Kd} {h : Heap} {p l : Addr} {k : Nat} {xs : Array Value} (f : Feed κ h p l k xs) : p < h.objs.size ∧ l < h.objs.size := by
  cases κ with
  | lst => obtain ⟨⟨o, e, _⟩, ⟨o2, e2, _⟩⟩ := f; exact ⟨Heap.lt_size e, Heap.lt_size e2⟩
  | tup => obtain ⟨⟨o, e, _⟩, ⟨o2, e2, _⟩⟩ := f; exact ⟨Heap.lt_size e, Heap.lt_size e2⟩
theorem Feed.obj {κ : Kd} {h : Heap} {p l : Addr} {k : Nat} {xs : Array Value} (f : Feed κ h p l k xs) : ∃ o, h.get? p = some o ∧ ∀ v, o.data ≠ .cell v := by
  cases κ with
  | lst => obtain ⟨⟨o, e, _, d⟩, _⟩ := f; exact ⟨o, e, fun v q => by rw [d] at q; cases q⟩
  | tup => obtain ⟨⟨o, e, _, d⟩, _⟩ := f; exact ⟨o, e, fun v q => by rw [d] at q; cases q⟩
section
variable {prog : Program} {w : World} {A : Around} {E : Value → Shared → Prop} {s : Shared}
theorem feed_next {κ : Kd} {p l : Addr} {k : Nat} {xs : Array Value} {x : Value} {Q : Value → Shared → Prop} (f : Feed κ s.heap p l k xs) (n : l ≠ p) (e : xs[k]? = some x)
    (q : ∀ h', Feed κ h' p l (k + 1) xs → Heap.SameBut p s.heap h' → Q x { s with heap := h' }) : wpAny (model prog w) A (Builtin.SmallTypes.nextOf (.ref p)) Q E s := by
  cases κ with
  | lst => exact wpAny_nextOf_list_item f.1 f.2 e fun h' a b => q h' ⟨a, f.2.at fun o z => b.extBut _ _ n z⟩ b
  | tup => exact RZ.nextOf_tuple_item f.1 f.2 e fun h' a b => q h' ⟨a, f.2.at fun o z => b.extBut _ _ n z⟩ b
theorem feed_over {κ : Kd} {p l : Addr} {k : Nat} {xs : Array Value} {Q : Value → Shared → Prop} (calm : A.handled = none) (f : Feed κ s.heap p l k xs) (e : xs[k]? = none)
    (q : ∀ h' x, Heap.ExtBut p s.heap h' → (∃ o, h'.get? x = some o ∧ o.cls = .type "StopIteration") → E (.ref x) { s with heap := h' }) : wpAny (model prog w) A (Builtin.SmallTypes.nextOf (.ref p)) Q E s := by
  cases κ with
  | lst => exact wpAny_nextOf_list_end calm f.1 f.2 e q
  | tup => exact RZ.nextOf_tuple_end calm f.1 f.2 e q
end
/-- all that a zip at z is made of; t, b: what it tells of the pair that it gave out -/
structure Zp (κ κ' : Kd) (z I O p p' l l' : Addr) (xs ys : Array Value) (k k' : Nat) (t : Value) (b : Bool) (h : Heap) : Prop where
  zip : h.get? z = some { cls := .type "zip", dict := none, data := .fields #[t, .bool b, .bool false, .ref I, .ref O], slots := #[] }
  ins : IsPair h I (.ref p) (.ref p')
  out : ∃ x y, IsPair h O x y
  fst : Feed κ h p l k xs
  snd : Feed κ' h p' l' k' ys
section
variable {κ κ' : Kd} {z I O p p' l l' : Addr} {xs ys : Array Value} {k k' : Nat} {t t' : Value} {b b' : Bool} {h h' : Heap}
theorem Zp.setZ (d : ZipApart z I O p p' l l') (m : Zp κ κ' z I O p p' l l' xs ys k k' t b h) (e : h'.get? z = some { cls := .type "zip", dict := none, data := .fields #[t', .bool b', .bool false, .ref I, .ref O], slots := #[] }) (s : Heap.SameBut z h h') :
    Zp κ κ' z I O p p' l l' xs ys k k' t' b' h' :=
  ⟨e, s.extBut _ _ d.TIz m.ins, m.out.imp fun x ⟨y, g⟩ => ⟨y, s.extBut _ _ d.TOz g⟩, m.fst.to (fun o => s.extBut _ o d.i1z) (fun o => s.extBut _ o d.l1z), m.snd.to (fun o => s.extBut _ o d.i2z) (fun o => s.extBut _ o d.l2z)⟩
theorem Zp.setF {j : Nat} (d : ZipApart z I O p p' l l') (m : Zp κ κ' z I O p p' l l' xs ys k k' t b h) (e : Feed κ h' p l j xs) (s : Heap.SameBut p h h') : Zp κ κ' z I O p p' l l' xs ys j k' t b h' :=
  ⟨s.extBut _ _ d.i1z.symm m.zip, s.extBut _ _ d.TIi1 m.ins, m.out.imp fun x ⟨y, g⟩ => ⟨y, s.extBut _ _ d.TOi1 g⟩, e, m.snd.to (fun o => s.extBut _ o d.i12.symm) (fun o => s.extBut _ o d.l2i1)⟩
theorem Zp.setS {j : Nat} (d : ZipApart z I O p p' l l') (m : Zp κ κ' z I O p p' l l' xs ys k k' t b h) (e : Feed κ' h' p' l' j ys) (s : Heap.SameBut p' h h') : Zp κ κ' z I O p p' l l' xs ys k j t b h' :=
  ⟨s.extBut _ _ d.i2z.symm m.zip, s.extBut _ _ d.TIi2 m.ins, m.out.imp fun x ⟨y, g⟩ => ⟨y, s.extBut _ _ d.TOi2 g⟩, m.fst.to (fun o => s.extBut _ o d.i12) (fun o => s.extBut _ o d.l1i2), e⟩
theorem Zp.setO {x y : Value} (d : ZipApart z I O p p' l l') (m : Zp κ κ' z I O p p' l l' xs ys k k' t b h) (e : IsPair h' O x y) (s : Heap.SameBut O h h') : Zp κ κ' z I O p p' l l' xs ys k k' t b h' :=
  ⟨s.extBut _ _ d.TOz.symm m.zip, s.extBut _ _ d.TITO m.ins, ⟨x, y, e⟩, m.fst.to (fun o => s.extBut _ o d.TOi1.symm) (fun o => s.extBut _ o d.l1TO), m.snd.to (fun o => s.extBut _ o d.TOi2.symm) (fun o => s.extBut _ o d.l2TO)⟩
theorem Zp.more (m : Zp κ κ' z I O p p' l l' xs ys k k' t b h) (s : ∀ c o, h.get? c = some o → h'.get? c = some o) : Zp κ κ' z I O p p' l l' xs ys k k' t b h' :=
  ⟨s _ _ m.zip, s _ _ m.ins, m.out.imp fun x ⟨y, g⟩ => ⟨y, s _ _ g⟩, m.fst.to (fun o => s _ o) (fun o => s _ o), m.snd.to (fun o => s _ o) (fun o => s _ o)⟩
theorem Zp.ty {m : Zp κ κ' z I O p p' l l' xs ys k k' t b h} : h.get? z ≠ none := fun e => by rw [m.zip] at e; cases e
end
/-- all but those of c stay -/
def But (c : List Addr) (h h' : Heap) : Prop := ∀ a o, a ∉ c → h.get? a = some o → h'.get? a = some o
theorem But.of {a : Addr} {c : List Addr} {h h' : Heap} (s : Heap.SameBut a h h') (m : a ∈ c) : But c h h' := fun x o n e => s.extBut _ _ (fun q => n (q ▸ m)) e
theorem But.trans {c : List Addr} {h h1 h' : Heap} (a : But c h h1) (b : But c h1 h') : But c h h' := fun x o n e => b x o n (a x o n e)
section
variable {prog : Program} {w : World} {A : Around} {E : Value → Shared → Prop} {s : Shared} {κ κ' : Kd} {z I O p p' l l' : Addr} {xs ys : Array Value} {k k' : Nat}
theorem zp_item {x y : Value} {Q : Value → Shared → Prop} (d : ZipApart z I O p p' l l') (m : Zp κ κ' z I O p p' l l' xs ys k k' .none false s.heap) (ex : xs[k]? = some x) (ey : ys[k']? = some y)
    (q : ∀ h', Zp κ κ' z I O p p' l l' xs ys (k + 1) (k' + 1) (rawInt s.heap.objs.size) false h' → IsPair h' s.heap.objs.size x y → h'.objs.size = s.heap.objs.size + 1 → But [z, O, p, p'] s.heap h' → Q (.ref s.heap.objs.size) { s with heap := h' }) :
    wpAny (model prog w) A (Builtin.«zip.__next__» ⟨[.ref z], []⟩) (fun r s' => ∃ v, r = .done (.ret v) ∧ Q v s') E s := by
  obtain ⟨x0, y0, go⟩ := m.out
  show wpAny _ _ (field (.ref z) 2 >>= _) _ _ _
  apply wpAny_bind
  apply wpAny_field m.zip rfl (x := .bool false) rfl
  show wpAny _ _ (field (.ref z) 3 >>= _) _ _ _
  apply wpAny_bind
  apply wpAny_field m.zip rfl (x := .ref I) rfl
  apply wpAny_bind
  apply wpAny_seqItems m.ins rfl
  show wpAny _ _ (Builtin.SmallTypes.ownedTupleIsFree (.ref z) >>= _) _ _ _
  apply wpAny_bind
  unfold Builtin.SmallTypes.ownedTupleIsFree
  apply wpAny_bind
  apply wpAny_field m.zip rfl (x := .none) rfl
  apply wpAny_pure
  simp only [if_true]
  apply wpAny_bind
  apply wpAny_rule
  apply wpAny_bind
  apply wpAny_field m.zip rfl (x := .ref O) rfl
  apply wpAny_bind
  refine wpAny_setField_rec m.zip (by simp) fun g1 z1 s1 => ?_
  have m1 := m.setZ (t' := .ellipsis) (b' := false) d z1 s1
  have u1 : But [z, O, p, p'] s.heap g1 := .of s1 (by simp)
  apply wpAny_bind
  simp only [List.zipIdx_cons, List.zipIdx_nil, List.forIn_cons, List.forIn_nil]
  apply wpAny_bind
  apply wpAny_bind
  apply wpAny_onRaise
  show wpAny _ _ (Builtin.SmallTypes.nextOf (.ref p) >>= _) _ _ _
  apply wpAny_bind
  refine feed_next m1.fst d.l1i1 ex fun g2 f2 s2 => wpAny_pure ?_
  have m2 := m1.setF d f2 s2
  have u2 : But [z, O, p, p'] s.heap g2 := u1.trans (.of s2 (by simp))
  have go2 : IsPair g2 O x0 y0 := s2.extBut _ _ d.TOi1 (s1.extBut _ _ d.TOz go)
  apply wpAny_bind
  apply wpAny_seqItems go2 rfl
  apply wpAny_bind
  refine wpAny_updateSeq_pair go2 fun g3 o3 s3 => ?_
  have go3 : IsPair g3 O x y0 := o3
  have m3 := m2.setO d go3 s3
  have u3 : But [z, O, p, p'] s.heap g3 := u2.trans (.of s3 (by simp))
  apply wpAny_bind
  apply wpAny_letGo
  apply wpAny_pure
  apply wpAny_bind
  apply wpAny_bind
  apply wpAny_onRaise
  show wpAny _ _ (Builtin.SmallTypes.nextOf (.ref p') >>= _) _ _ _
  apply wpAny_bind
  refine feed_next m3.snd d.l2i2 ey fun g4 f4 s4 => wpAny_pure ?_
  have m4 := m3.setS d f4 s4
  have u4 : But [z, O, p, p'] s.heap g4 := u3.trans (.of s4 (by simp))
  have go4 : IsPair g4 O x y0 := s4.extBut _ _ d.TOi2 go3
  apply wpAny_bind
  apply wpAny_seqItems go4 rfl
  apply wpAny_bind
  refine wpAny_updateSeq_pair go4 fun g5 o5 s5 => ?_
  have go5 : IsPair g5 O x y := o5
  have m5 := m4.setO d go5 s5
  have u5 : But [z, O, p, p'] s.heap g5 := u4.trans (.of s5 (by simp))
  apply wpAny_bind
  apply wpAny_letGo
  apply wpAny_pure
  apply wpAny_pure
  apply wpAny_bind
  apply wpAny_seqItems go5 rfl
  apply wpAny_bind
  refine wpAny_newTuple ?_
  have sz : g5.objs.size = s.heap.objs.size := by rw [s5.1, s4.1, s3.1, s2.1, s1.1]
  have zl : z < g5.objs.size := Heap.lt_size m5.zip
  show wpAny _ _ (Builtin.SmallTypes.ownedTupleHandOut (.ref z) (.ref g5.objs.size) >>= _) _ _ _
  apply wpAny_bind
  unfold Builtin.SmallTypes.ownedTupleHandOut
  have m6 : Zp κ κ' z I O p p' l l' xs ys (k + 1) (k' + 1) .ellipsis false (g5.push { cls := .type "tuple", data := .seq #[x, y] }) := m5.more fun c o e => Heap.get?_push_of_some _ e
  have t6 : IsPair (g5.push { cls := .type "tuple", data := .seq #[x, y] }) g5.objs.size x y := Heap.get?_push_size _ rfl
  apply wpAny_bind
  refine wpAny_setField_rec m6.zip (by simp) fun g7 z7 s7 => ?_
  have m7 := m6.setZ (t' := rawInt g5.objs.size) (b' := false) d z7 s7
  refine wpAny_setField_rec m7.zip (by simp) fun g8 z8 s8 => ?_
  have m8 := m7.setZ (t' := rawInt g5.objs.size) (b' := false) d z8 s8
  have t8 : IsPair g8 g5.objs.size x y := s8.extBut _ _ (Nat.ne_of_gt zl) (s7.extBut _ _ (Nat.ne_of_gt zl) t6)
  have sz8 : g8.objs.size = g5.objs.size + 1 := by rw [s8.1, s7.1, Heap.size_push]
  have u8 : But [z, O, p, p'] s.heap g8 := fun c o n e => (But.of s8 (by simp)) c o n ((But.of s7 (by simp)) c o n (Heap.get?_push_of_some _ (u5 c o n e)))
  rw [sz] at m8 t8 sz8
  refine wpAny_pure ⟨_, rfl, ?_⟩
  show Q (.ref g5.objs.size) _
  rw [sz]
  exact q g8 m8 t8 sz8 u8
theorem zp_over {Q : Fin → Shared → Prop} (calm : A.handled = none) (d : ZipApart z I O p p' l l') (m : Zp κ κ' z I O p p' l l' xs ys k k' .none false s.heap) (e : xs[k]? = none ∨ ys[k']? = none)
    (q : ∀ h' x, But [z, O, p, p'] s.heap h' → (∃ o, h'.get? x = some o ∧ o.cls = .type "StopIteration") → E (.ref x) { s with heap := h' }) : wpAny (model prog w) A (Builtin.«zip.__next__» ⟨[.ref z], []⟩) Q E s := by
  obtain ⟨x0, y0, go⟩ := m.out
  show wpAny _ _ (field (.ref z) 2 >>= _) _ _ _
  apply wpAny_bind
  apply wpAny_field m.zip rfl (x := .bool false) rfl
  show wpAny _ _ (field (.ref z) 3 >>= _) _ _ _
  apply wpAny_bind
  apply wpAny_field m.zip rfl (x := .ref I) rfl
  apply wpAny_bind
  apply wpAny_seqItems m.ins rfl
  show wpAny _ _ (Builtin.SmallTypes.ownedTupleIsFree (.ref z) >>= _) _ _ _
  apply wpAny_bind
  unfold Builtin.SmallTypes.ownedTupleIsFree
  apply wpAny_bind
  apply wpAny_field m.zip rfl (x := .none) rfl
  apply wpAny_pure
  simp only [if_true]
  apply wpAny_bind
  apply wpAny_rule
  apply wpAny_bind
  apply wpAny_field m.zip rfl (x := .ref O) rfl
  apply wpAny_bind
  refine wpAny_setField_rec m.zip (by simp) fun g1 z1 s1 => ?_
  have m1 := m.setZ (t' := .ellipsis) (b' := false) d z1 s1
  have u1 : But [z, O, p, p'] s.heap g1 := .of s1 (by simp)
  apply wpAny_bind
  simp only [List.zipIdx_cons, List.zipIdx_nil, List.forIn_cons, List.forIn_nil]
  apply wpAny_bind
  apply wpAny_bind
  apply wpAny_onRaise
  show wpAny _ _ (Builtin.SmallTypes.nextOf (.ref p) >>= _) _ _ _
  cases ex : xs[k]? with
  | none =>
    apply wpAny_bind
    refine feed_over calm m1.fst ex fun g2 a s2 st => ?_
    have zz := s2 _ _ d.i1z.symm m1.zip
    obtain ⟨oa, ea, ca⟩ := st
    have na : a ≠ z := fun h => by rw [h, zz] at ea; cases ea; simp at ca
    refine wpAny_setField_rec zz (by simp) fun g3 _ s3 => q g3 a ?_ ⟨oa, s3.extBut _ _ na ea, ca⟩
    exact u1.trans (But.trans (fun c o n e => s2 _ _ (fun h => n (by simp [h])) e) (.of s3 (by simp)))
  | some x =>
    have ey : ys[k']? = none := e.resolve_left (by rw [ex]; exact fun h => nomatch h)
    apply wpAny_bind
    refine feed_next m1.fst d.l1i1 ex fun g2 f2 s2 => wpAny_pure ?_
    have m2 := m1.setF d f2 s2
    have u2 : But [z, O, p, p'] s.heap g2 := u1.trans (.of s2 (by simp))
    have go2 : IsPair g2 O x0 y0 := s2.extBut _ _ d.TOi1 (s1.extBut _ _ d.TOz go)
    apply wpAny_bind
    apply wpAny_seqItems go2 rfl
    apply wpAny_bind
    refine wpAny_updateSeq_pair go2 fun g3 o3 s3 => ?_
    have m3 := m2.setO (x := x) (y := y0) d o3 s3
    have u3 : But [z, O, p, p'] s.heap g3 := u2.trans (.of s3 (by simp))
    apply wpAny_bind
    apply wpAny_letGo
    apply wpAny_pure
    apply wpAny_bind
    apply wpAny_bind
    apply wpAny_onRaise
    show wpAny _ _ (Builtin.SmallTypes.nextOf (.ref p') >>= _) _ _ _
    apply wpAny_bind
    refine feed_over calm m3.snd ey fun g4 a s4 st => ?_
    have zz := s4 _ _ d.i2z.symm m3.zip
    obtain ⟨oa, ea, ca⟩ := st
    have na : a ≠ z := fun h => by rw [h, zz] at ea; cases ea; simp at ca
    refine wpAny_setField_rec zz (by simp) fun g5 _ s5 => q g5 a ?_ ⟨oa, s5.extBut _ _ na ea, ca⟩
    exact u3.trans (But.trans (fun c o n e => s4 _ _ (fun h => n (by simp [h])) e) (.of s5 (by simp)))
end
section
variable {prog : Program} {w : World} {A : Around} {E : Value → Shared → Prop} {s : Shared} {κ κ' : Kd} {z I O p p' l l' : Addr} {xs ys : Array Value} {k k' : Nat} {T : Addr} {f : Bool} {o : Obj} {x y : Value} {Q : Option Value → Shared → Prop}
theorem zp_is {t : Value} {b : Bool} (m : Zp κ κ' z I O p p' l l' xs ys k k' t b s.heap) : s.TypeIs (.ref z) "zip" := ⟨_, m.zip, rfl⟩
theorem zp_next {t : Value} {b : Bool} (m : Zp κ κ' z I O p p' l l' xs ys k k' t b s.heap) {R : Value → Shared → Prop} (go : wpAny (model prog w) A.in1 (Builtin.«zip.__next__» ⟨[.ref z], []⟩) (fun r s' => ∃ v, r = .done (.ret v) ∧ Q (some v) s') R s)
    (ov : ∀ x s', R x s' → ∃ a, x = .ref a ∧ (∃ o, s'.heap.get? a = some o ∧ o.cls = .type "StopIteration") ∧ Q none s') : wpAny (model prog w) A (pyNext (.ref z)) Q E s := by
  unfold pyNext
  apply wpAny_bind
  apply wpAny_attempt
  refine wpAny_callSpecial?_slot (name := Str.ofString "__next__") (zp_is m) F.slot_zip_next ?_
  refine wpAny_call_entry F.slot_zip_next (zp_is m) F.entry_zip_next ?_ (F.args_zip_next_1 _)
  refine wpAny_mono go (fun r s' hr => ?_) fun x s' hx => ?_
  · obtain ⟨v, e, hq⟩ := hr
    exact ⟨v, e, wpAny_pure hq⟩
  · obtain ⟨a, rfl, ⟨oa, ea, ca⟩, hq⟩ := ov x s' hx
    apply wpAny_bind
    refine wpAny_isInstance (v := .ref a) (s := s') (T := "StopIteration") (b := true) ⟨oa, ea, ca⟩ isSubtype_stop ?_
    exact wpAny_pure hq
theorem py_item (d : ZipApart z I O p p' l l') (m : Zp κ κ' z I O p p' l l' xs ys k k' .none false s.heap) (ex : xs[k]? = some x) (ey : ys[k']? = some y)
    (q : ∀ h', Zp κ κ' z I O p p' l l' xs ys (k + 1) (k' + 1) (rawInt s.heap.objs.size) false h' → IsPair h' s.heap.objs.size x y → h'.objs.size = s.heap.objs.size + 1 → But [z, O, p, p'] s.heap h' → Q (some (.ref s.heap.objs.size)) { s with heap := h' }) :
    wpAny (model prog w) A (pyNext (.ref z)) Q E s :=
  zp_next m (R := fun _ _ => False) (zp_item d m ex ey (Q := fun v s' => Q (some v) s') q) fun _ _ h => h.elim
theorem py_over (calm : A.handled = none) (d : ZipApart z I O p p' l l') (m : Zp κ κ' z I O p p' l l' xs ys k k' .none false s.heap) (e : xs[k]? = none ∨ ys[k']? = none)
    (q : ∀ h', But [z, O, p, p'] s.heap h' → Q none { s with heap := h' }) : wpAny (model prog w) A (pyNext (.ref z)) Q E s :=
  zp_next m (R := fun x s' => ∃ a h', x = .ref a ∧ s' = { s with heap := h' } ∧ But [z, O, p, p'] s.heap h' ∧ ∃ o, h'.get? a = some o ∧ o.cls = .type "StopIteration")
    (zp_over (A := A.in1) calm d m e fun h' a u st => ⟨a, h', rfl, rfl, u, st⟩) fun x s' ⟨a, h', e1, e2, u, st⟩ => by subst e2; exact ⟨a, e1, st, q h' u⟩
end
/-! making one -/
def Sq (κ : Kd) (h : Heap) (l : Addr) (xs : Array Value) : Prop :=
  match κ with
  | .lst => h.IsList l xs
  | .tup => h.IsTuple l xs
abbrev itO (n : String) (l : Addr) : Obj := { cls := .type n, data := .fields #[.ref l, .int 0 0] }
abbrev zh5 (n n' : String) (h : Heap) (l l' : Addr) : Heap :=
  ((((h.push (itO n l)).push (itO n' l')).push { cls := .type "tuple", data := .seq #[.ref h.objs.size, .ref (h.push (itO n l)).objs.size] }).push { cls := .type "tuple", data := .seq #[.none, .none] }).push
    { cls := .type "zip", data := .fields #[.none, .bool false, .bool false, .ref ((h.push (itO n l)).push (itO n' l')).objs.size, .ref (((h.push (itO n l)).push (itO n' l')).push { cls := .type "tuple", data := .seq #[.ref h.objs.size, .ref (h.push (itO n l)).objs.size] }).objs.size] }
abbrev zhN (n n' : String) (h : Heap) (l l' : Addr) : Nat :=
  ((((h.push (itO n l)).push (itO n' l')).push { cls := .type "tuple", data := .seq #[.ref h.objs.size, .ref (h.push (itO n l)).objs.size] }).push { cls := .type "tuple", data := .seq #[.none, .none] }).objs.size
theorem zm_tl (l l' : Addr) (xs ys : Array Value) :
    Meets (Builtin.«zip.__new__» ⟨[.type "zip", .ref l, .ref l'], []⟩) (fun _ R s => s.heap.IsTuple l xs ∧ s.heap.IsList l' ys ∧ R (.ok (.ret (.ref (zhN "tuple_iterator" "list_iterator" s.heap l l')))) { s with heap := zh5 "tuple_iterator" "list_iterator" s.heap l l' }) :=
  .of_wp fun prog w A R s h => by
    obtain ⟨hh, gg, dd, tt, oo⟩ := s
    obtain ⟨a1, a2, h⟩ := h
    have sub := sub_zip
    have b1 : Heap.IsTuple (Shared.heap ⟨hh, gg, dd, tt, oo⟩) l xs := a1
    have b2 : Heap.IsList (Shared.heap ⟨hh.push (itO "tuple_iterator" l), gg, dd, tt, oo⟩) l' ys := Heap.IsList.push a2 _
    wp_walk using wpAny_pyIter_tuple b1, wpAny_pyIter_list b2
    exact ⟨_, rfl, h⟩
theorem zm_lt (l l' : Addr) (xs ys : Array Value) :
    Meets (Builtin.«zip.__new__» ⟨[.type "zip", .ref l, .ref l'], []⟩) (fun _ R s => s.heap.IsList l xs ∧ s.heap.IsTuple l' ys ∧ R (.ok (.ret (.ref (zhN "list_iterator" "tuple_iterator" s.heap l l')))) { s with heap := zh5 "list_iterator" "tuple_iterator" s.heap l l' }) :=
  .of_wp fun prog w A R s h => by
    obtain ⟨hh, gg, dd, tt, oo⟩ := s
    obtain ⟨a1, a2, h⟩ := h
    have sub := sub_zip
    have b1 : Heap.IsList (Shared.heap ⟨hh, gg, dd, tt, oo⟩) l xs := a1
    have b2 : Heap.IsTuple (Shared.heap ⟨hh.push (itO "list_iterator" l), gg, dd, tt, oo⟩) l' ys := Heap.IsTuple.push a2 _
    wp_walk using wpAny_pyIter_list b1, wpAny_pyIter_tuple b2
    exact ⟨_, rfl, h⟩
section
variable {prog : Program} {w : World} {A : Around} {E : Value → Shared → Prop} {s : Shared} {l l' : Addr} {xs ys : Array Value} {Q : Value → Shared → Prop}
theorem put_last (h : Heap) (o : Obj) (f : o.isFreed = false) : (h.push o).get? h.objs.size = some o := Heap.get?_push_size h f
/-- what a new zip's heap holds -/
theorem zh5_is (n n' : String) (h : Heap) (l l' : Addr) : zhN n n' h l l' = h.objs.size + 4 ∧ (zh5 n n' h l l').objs.size = h.objs.size + 5 ∧
    (zh5 n n' h l l').get? (h.objs.size + 4) = some { cls := .type "zip", data := .fields #[.none, .bool false, .bool false, .ref (h.objs.size + 2), .ref (h.objs.size + 3)] } ∧
    IsPair (zh5 n n' h l l') (h.objs.size + 2) (.ref h.objs.size) (.ref (h.objs.size + 1)) ∧ IsPair (zh5 n n' h l l') (h.objs.size + 3) .none .none ∧
    (zh5 n n' h l l').get? h.objs.size = some (itO n l) ∧ (zh5 n n' h l l').get? (h.objs.size + 1) = some (itO n' l') ∧ ∀ c o, h.get? c = some o → (zh5 n n' h l l').get? c = some o := by
  have k1 : (h.push (itO n l)).objs.size = h.objs.size + 1 := Heap.size_push ..
  have k2 : ((h.push (itO n l)).push (itO n' l')).objs.size = h.objs.size + 2 := by rw [Heap.size_push, k1]
  have k3 : (((h.push (itO n l)).push (itO n' l')).push { cls := .type "tuple", data := .seq #[.ref h.objs.size, .ref (h.push (itO n l)).objs.size] }).objs.size = h.objs.size + 3 := by rw [Heap.size_push, k2]
  have k4 : zhN n n' h l l' = h.objs.size + 4 := by show Array.size _ = _; rw [Heap.size_push, k3]
  have r1 : (h.push (itO n l)).get? h.objs.size = some (itO n l) := Heap.get?_push_size _ rfl
  have r2 : ((h.push (itO n l)).push (itO n' l')).get? (h.push (itO n l)).objs.size = some (itO n' l') := Heap.get?_push_size _ rfl
  have r3 := put_last ((h.push (itO n l)).push (itO n' l')) { cls := .type "tuple", data := .seq #[.ref h.objs.size, .ref (h.push (itO n l)).objs.size] } rfl
  have r4 := put_last (((h.push (itO n l)).push (itO n' l')).push { cls := .type "tuple", data := .seq #[.ref h.objs.size, .ref (h.push (itO n l)).objs.size] }) { cls := .type "tuple", data := .seq #[.none, .none] } rfl
  have r5 := put_last ((((h.push (itO n l)).push (itO n' l')).push { cls := .type "tuple", data := .seq #[.ref h.objs.size, .ref (h.push (itO n l)).objs.size] }).push { cls := .type "tuple", data := .seq #[.none, .none] })
    { cls := .type "zip", data := .fields #[.none, .bool false, .bool false, .ref ((h.push (itO n l)).push (itO n' l')).objs.size, .ref (((h.push (itO n l)).push (itO n' l')).push { cls := .type "tuple", data := .seq #[.ref h.objs.size, .ref (h.push (itO n l)).objs.size] }).objs.size] } rfl
  have up : ∀ {g : Heap} {c : Addr} {o o' : Obj}, g.get? c = some o → (g.push o').get? c = some o := fun e => Heap.get?_push_of_some _ e
  refine ⟨k4, by rw [Heap.size_push]; show zhN n n' h l l' + 1 = _; rw [k4], ?_, ?_, ?_, up (up (up (up r1))), ?_, fun c o e => up (up (up (up (up e))))⟩
  · rw [← k4, ← k2, ← k3]; exact r5
  · rw [← k2, ← k1]; exact up (up r3)
  · rw [← k3]; exact up r4
  · rw [← k1]; exact up (up (up r2))
theorem call_zp {κ κ' : Kd} (a1 : Sq κ s.heap l xs) (a2 : Sq κ' s.heap l' ys)
    (q : ∀ h', Zp κ κ' (s.heap.objs.size + 4) (s.heap.objs.size + 2) (s.heap.objs.size + 3) s.heap.objs.size (s.heap.objs.size + 1) l l' xs ys 0 0 .none false h' → h'.objs.size = s.heap.objs.size + 5 →
      (∀ c o, s.heap.get? c = some o → h'.get? c = some o) → Q (.ref (s.heap.objs.size + 4)) { s with heap := h' }) : wpAny (model prog w) A (call (.type "zip") [.ref l, .ref l']) Q E s := by
  cases κ with
  | lst =>
    cases κ' with
    | lst => exact call_zip_2 a1 a2 fun h' e1 e2 e3 e4 e5 e6 up => q h' ⟨e1, e2, ⟨_, _, e3⟩, ⟨e4, a1.at fun o => up _ o⟩, ⟨e5, a2.at fun o => up _ o⟩⟩ e6 up
    | tup =>
      refine callType_new F.called_zip (by decide) (F.typeCall_zip_2 _ _) (F.newCall_zip_2 _ _) (fun obj => F.args_object_init_3 obj _ _) F.entry_zip_new (zm_lt l l' xs ys) ⟨a1, a2, ?_⟩
      obtain ⟨e0, e1, e2, e3, e4, e5, e6, up⟩ := zh5_is "list_iterator" "tuple_iterator" s.heap l l'
      show _ ∧ _
      rw [e0]
      exact ⟨⟨_, e2, rfl⟩, q _ ⟨e2, e3, ⟨_, _, e4⟩, ⟨⟨_, e5, rfl, rfl⟩, a1.at fun o => up _ o⟩, ⟨⟨_, e6, rfl, rfl⟩, a2.at fun o => up _ o⟩⟩ e1 up⟩
  | tup =>
    cases κ' with
    | lst =>
      refine callType_new F.called_zip (by decide) (F.typeCall_zip_2 _ _) (F.newCall_zip_2 _ _) (fun obj => F.args_object_init_3 obj _ _) F.entry_zip_new (zm_tl l l' xs ys) ⟨a1, a2, ?_⟩
      obtain ⟨e0, e1, e2, e3, e4, e5, e6, up⟩ := zh5_is "tuple_iterator" "list_iterator" s.heap l l'
      show _ ∧ _
      rw [e0]
      exact ⟨⟨_, e2, rfl⟩, q _ ⟨e2, e3, ⟨_, _, e4⟩, ⟨⟨_, e5, rfl, rfl⟩, a1.at fun o => up _ o⟩, ⟨⟨_, e6, rfl, rfl⟩, a2.at fun o => up _ o⟩⟩ e1 up⟩
    | tup => exact RZ.call_zipT a1 a2 fun h' e1 e2 e3 e4 e5 e6 up => q h' ⟨e1, e2, ⟨_, _, e3⟩, ⟨e4, a1.at fun o => up _ o⟩, ⟨e5, a2.at fun o => up _ o⟩⟩ e6 up
end
/-! ### walked -/
def SqK (K : PySem.W.Frag) (κ : Kd) (H : Hp) (a : Addr) (xs : List V) : Prop :=
  match κ with
  | .lst => SqL K H a xs
  | .tup => SqT K H a xs
def It1 (κ : Kd) (h : Heap) (p l : Addr) (k : Nat) : Prop :=
  match κ with
  | .lst => h.IsListIter p l k
  | .tup => h.IsTupleIter p l k
theorem It1.to {κ : Kd} {h h' : Heap} {p l : Addr} {k : Nat} (f : It1 κ h p l k) (e : ∀ o, h.get? p = some o → h'.get? p = some o) : It1 κ h' p l k := by
  cases κ with
  | lst => exact f.at e
  | tup => exact f.at e
theorem It1.obj {κ : Kd} {h : Heap} {p l : Addr} {k : Nat} (f : It1 κ h p l k) : ∃ o, h.get? p = some o ∧ ∀ v, o.data ≠ .cell v := by
  cases κ with
  | lst => obtain ⟨o, e, _, d⟩ := f; exact ⟨o, e, fun v q => by rw [d] at q; cases q⟩
  | tup => obtain ⟨o, e, _, d⟩ := f; exact ⟨o, e, fun v q => by rw [d] at q; cases q⟩
theorem Feed.it {κ : Kd} {h : Heap} {p l : Addr} {k : Nat} {xs : Array Value} (f : Feed κ h p l k xs) : It1 κ h p l k := by
  cases κ with
  | lst => exact f.1
  | tup => exact f.1
theorem It1.feed {κ : Kd} {h : Heap} {p l : Addr} {k : Nat} {xs : Array Value} (f : It1 κ h p l k) (g : Sq κ h l xs) : Feed κ h p l k xs := by
  cases κ with
  | lst => exact ⟨f, g⟩
  | tup => exact ⟨f, g⟩
section
variable {X : Cx} {pins : List (Addr × Obj)} {σ : L2.St} {H : Hp} {s : Shared}
theorem SqK.is (I : Inv X pins σ H s) {κ : Kd} {a : Addr} {xs : List V} (h : SqK X.K κ H a xs) : ∃ us, Vals xs us ∧ Sq κ s.heap a us.toArray ∧ xs.length ≤ sizeLine := by
  cases κ with
  | lst =>
    obtain ⟨us, r, p, hz⟩ := I.list h
    exact ⟨us, r, p.isList, hz⟩
  | tup =>
    obtain ⟨us, r, p, hz⟩ := I.tuple h
    exact ⟨us, r, p, hz⟩
theorem SqK.inj (I : Inv X pins σ H s) {κ : Kd} {a : Addr} {xs ys : List V} (h : SqK X.K κ H a xs) (h' : SqK X.K κ H a ys) : xs = ys := by
  cases κ with
  | lst => exact I.list_inj h h'
  | tup => exact I.tuple_inj h h'
theorem Sq.lt {κ : Kd} {h : Heap} {l : Addr} {xs : Array Value} (g : Sq κ h l xs) : l < h.objs.size := by
  cases κ with
  | lst => obtain ⟨o, e, _⟩ := g; exact Heap.lt_size e
  | tup => obtain ⟨o, e, _⟩ := g; exact Heap.lt_size e
theorem Sq.to {κ : Kd} {h h' : Heap} {l : Addr} {xs : Array Value} (g : Sq κ h l xs) (e : ∀ o, h.get? l = some o → h'.get? l = some o) : Sq κ h' l xs := by
  cases κ with
  | lst => exact g.at e
  | tup => exact g.at e
end
/-- a list or tuple at a, one at b, as they stand at each turn; the items in new pairs -/
def ItM (K : PySem.W.Frag) (κ κ' : Kd) (a b : Addr) : It :=
  ⟨fun i H => ∃ (xs ys : List V) (x y : V), SqK K κ H a xs ∧ SqK K κ' H b ys ∧ xs[i]? = some x ∧ ys[i]? = some y,
    fun i H v H' => ∃ T x y, v = .ref T ∧ H T = none ∧ H' = upd H T (.tup [x, y]) ∧ (∀ xs, SqK K κ H a xs → xs[i]? = some x) ∧ ∀ ys, SqK K κ' H b ys → ys[i]? = some y,
    fun i H => ∃ xs ys : List V, SqK K κ H a xs ∧ SqK K κ' H b ys ∧ (xs.length ≤ i ∨ ys.length ≤ i)⟩
structure Zt (κ κ' : Kd) (z I O p p' a b : Addr) (i : Nat) (h : Heap) : Prop where
  zip : h.get? z = some { cls := .type "zip", dict := none, data := .fields #[.none, .bool false, .bool false, .ref I, .ref O], slots := #[] }
  ins : IsPair h I (.ref p) (.ref p')
  out : ∃ x y, IsPair h O x y
  fst : It1 κ h p a i
  snd : It1 κ' h p' b i
theorem turn_m {P : Program} {w : World} {K : PySem.W.Frag} {es : List Expr} {kk : Nat} {tp : Pos} {κ κ' : Kd} {z I O p p' a b : Addr} (d : ZipApart z I O p p' a b) :
    Turn P w K (.Tuple es kk tp) (ItM K κ κ' a b) [z, I, O, p, p'] z (Zt κ κ' z I O p p' a b) where
  mem := List.mem_cons_self
  obj := fun i h st c hc => by
    simp only [List.mem_cons, List.not_mem_nil, or_false] at hc
    obtain ⟨x, y, ho⟩ := st.out
    rcases hc with rfl | rfl | rfl | rfl | rfl
    · exact ⟨_, st.zip, fun v q => nomatch q⟩
    · exact ⟨_, st.ins, fun v q => nomatch q⟩
    · exact ⟨_, ho, fun v q => nomatch q⟩
    · exact st.fst.obj
    · exact st.snd.obj
  keep := fun i h h' st k => by
    obtain ⟨x, y, ho⟩ := st.out
    exact ⟨k _ (by simp) _ st.zip, k _ (by simp) _ st.ins, ⟨x, y, k _ (by simp) _ ho⟩, st.fst.to fun o => k _ (by simp) o, st.snd.to fun o => k _ (by simp) o⟩
  item := by
    intro X hP hw hK hc i pins s σ H E J hf st ⟨xs, ys, x, y, hx, hy, ex, ey⟩
    subst hP hw hK
    obtain ⟨us, ru, gu, _⟩ := hx.is J
    obtain ⟨vs, rv, gv, _⟩ := hy.is J
    obtain ⟨u, eu, rx⟩ := ru.get ex
    obtain ⟨v, ev, ry⟩ := rv.get ey
    have m : Zp κ κ' z I O p p' a b us.toArray vs.toArray i i .none false s.heap := ⟨st.zip, st.ins, st.out, st.fst.feed gu, st.snd.feed gv⟩
    have zl : z < s.heap.objs.size := Heap.lt_size st.zip
    refine py_item d m (x := u) (y := v) (by simpa using eu) (by simpa using ev) fun h1 m1 t1 z1 u1 => ?_
    refine ⟨_, rfl, wpAny_letOwnedTupleGo_zip (s := { s with heap := h1 }) m1.zip fun h2 zz sb => ?_⟩
    have m2 := m1.setZ (t' := .none) (b' := false) d zz sb
    have t2 : h2.get? s.heap.objs.size = some { cls := .type "tuple", data := .seq #[u, v] } := sb.extBut _ _ (Nat.ne_of_gt zl) t1
    have new : ObjOk X.prog X.w (upd H s.heap.objs.size (.tup [x, y])) h2 s.heap.objs.size (.tup [x, y]) := ⟨by show 2 ≤ sizeLine; decide, [u, v], .cons rx (.cons ry .nil), ⟨_, t2, rfl, _, rfl⟩⟩
    have J1 : Inv X pins σ (upd H s.heap.objs.size (.tup [x, y])) { s with heap := h2 } :=
      J.turnedNew (t' := s.toks) (ch := [z, I, O, p, p']) (fun c o n q => sb.extBut _ _ (fun e => n (by simp [e])) (u1 c o (fun e => n (by simp at e ⊢; rcases e with e | e | e | e <;> simp [e])) q)) hf (Nat.le_refl _) new
    refine ⟨.ref s.heap.objs.size, _, J1, rfl, ⟨_, x, y, rfl, J.hok.fresh (Nat.le_refl _), rfl, fun l hl => by rw [SqK.inj J hl hx]; exact ex, fun l hl => by rw [SqK.inj J hl hy]; exact ey⟩, ⟨m2.zip, m2.ins, m2.out, m2.fst.it, m2.snd.it⟩, fun c hcm => ?_⟩
    have lt : c < s.heap.objs.size := by
      simp only [List.mem_cons, List.not_mem_nil, or_false] at hcm
      obtain ⟨_, _, ho⟩ := st.out
      rcases hcm with rfl | rfl | rfl | rfl | rfl
      · exact zl
      · exact Heap.lt_size st.ins
      · exact Heap.lt_size ho
      · obtain ⟨_, e, _⟩ := st.fst.obj; exact Heap.lt_size e
      · obtain ⟨_, e, _⟩ := st.snd.obj; exact Heap.lt_size e
    rw [upd_ne (Nat.ne_of_lt lt)]
    exact (hf c hcm).1
  done := by
    intro X hP hw hK hc i pins s σ H E J hf st ⟨xs, ys, hx, hy, hend⟩
    subst hP hw hK
    obtain ⟨us, ru, gu, _⟩ := hx.is J
    obtain ⟨vs, rv, gv, _⟩ := hy.is J
    have m : Zp κ κ' z I O p p' a b us.toArray vs.toArray i i .none false s.heap := ⟨st.zip, st.ins, st.out, st.fst.feed gu, st.snd.feed gv⟩
    have l1 := ru.length
    have l2 := rv.length
    have he : us.toArray[i]? = none ∨ vs.toArray[i]? = none := hend.imp (fun q => by simp; omega) fun q => by simp; omega
    exact py_over (J.ok.hd hc) d m he fun h1 u1 => ⟨rfl, J.turnedL (t' := s.toks) (ch := [z, I, O, p, p']) (fun c o n q => u1 c o (fun e => n (by simp at e ⊢; rcases e with e | e | e | e <;> simp [e])) q) hf⟩
  self := fun A i s Q E st h => wpAny_pyIter_zip st.zip h
theorem five_new {X : Cx} {pins : List (Addr × Obj)} {σ : L2.St} {H : Hp} {s : Shared} (I : Inv X pins σ H s) : ∀ c, c ∈ [s.heap.objs.size + 4, s.heap.objs.size + 2, s.heap.objs.size + 3, s.heap.objs.size, s.heap.objs.size + 1] → FpOk X pins H c := fun c hc => by
  have le : s.heap.objs.size ≤ c := by
    simp only [List.mem_cons, List.not_mem_nil, or_false] at hc
    omega
  exact I.fpOk le (I.hok.fresh le)
def iZipM (K : PySem.W.Frag) (ta : TA) : TI := fun σ H R => ta σ H fun vs H1 => ∃ κ κ' a b xs ys, vs = [.ref a, .ref b] ∧ SqK K κ H1 a xs ∧ SqK K κ' H1 b ys ∧ R (ItM K κ κ' a b) H1
theorem pi_zipM {X : Cx} {e e2 : Expr} {ta : TA} {p pos tp : Pos} {es : List Expr} {kk : Nat} (hg : Gl X "zip") (hm : X.mg "zip" = none) (ha : PA X [e, e2] ta)
    (hs : starEach [e, e2] X.env = (false, eval e X.env) :: starEach [e2] X.env := by rfl) (hpl : (backTo pos (starEach [e2] X.env)).any (·.1) = false := by rfl) : PI X (.Tuple es kk tp) (.Call (.Name "zip" p) [e, e2] [] pos) (iZipM X.K ta) := by
  refine ⟨fun pins s σ H R I h => ?_⟩
  refine Call_ (ld_blt I hg hm PyProof.Rows.boot_zip (PyProof.Rows.callWith_type1 (thn (ha.run pos pins s σ H _ I h) fun us s1 ⟨vs, H1, I1, r1, q1⟩ => ?_) hs hpl))
  obtain ⟨κ, κ', a, b, xs, ys, rfl, hx, hy, q⟩ := q1
  obtain ⟨u, v, rfl, rx, ry⟩ := vals2 r1
  cases rx
  cases ry
  obtain ⟨us, ru, gu, _⟩ := hx.is I1
  obtain ⟨ws, rw', gw, _⟩ := hy.is I1
  refine call_zp gu gw fun h' m sz up => wpAny_pyIter_zip m.zip ?_
  exact ⟨s1.heap.objs.size + 4, [s1.heap.objs.size + 4, s1.heap.objs.size + 2, s1.heap.objs.size + 3, s1.heap.objs.size, s1.heap.objs.size + 1], _, _, H1, rfl, I1.kept (t' := s1.toks) up,
    turn_m (PySem.W.ktu_apart s1.heap.objs.size a b gu.lt gw.lt), ⟨m.zip, m.ins, m.out, m.fst.it, m.snd.it⟩, five_new I1, q⟩
/-! ### dict(zip(..)) -/
/-- what a dict gets of two rows: keys, values -/
def tDictZ (K : PySem.W.Frag) (ta : TA) : TE := fun σ H Q => ta σ H fun vs H1 => ∃ κ κ' a b, ∃ (ks : List Key) (ys : List V), vs = [.ref a, .ref b] ∧ SqK K κ H1 a (ks.map kV) ∧ SqK K κ' H1 b ys ∧ New H1 (.dK (mergeK [] (ks.zip ys))) fun p H2 => Q (.ref p) H2
/-! ### zips, dicts of zips, in a walk -/
theorem g_dictZ {K : PySem.W.Frag} {σ : L2.St} {H : Hp} {Q : VK} {ta : TA} (h : ta σ H fun vs H1 => ∃ κ κ' a b, ∃ (ks : List Key) (ys : List V), vs = [.ref a, .ref b] ∧ SqK K κ H1 a (ks.map kV) ∧ SqK K κ' H1 b ys ∧ New H1 (.dK (mergeK [] (ks.zip ys))) fun p H2 => Q (.ref p) H2) : tDictZ K ta σ H Q := h
theorem g_zipM {K : PySem.W.Frag} {σ : L2.St} {H : Hp} {R : It → Hp → Prop} {ta : TA} (h : ta σ H fun vs H1 => ∃ κ κ' a b xs ys, vs = [.ref a, .ref b] ∧ SqK K κ H1 a xs ∧ SqK K κ' H1 b ys ∧ R (ItM K κ κ' a b) H1) : iZipM K ta σ H R := h
/-! ### enumerate of a tuple -/
theorem meets_enumB {v : Value} {o : Obj} {G : Heap → Prop} (B : Begins v o G) : Meets (Builtin.«enumerate.__new__» ⟨[.type "enumerate", v], []⟩) (fun _ R s => G s.heap ∧
    R (.ok (.ret (.ref (s.heap.push o).objs.size))) { s with heap := (s.heap.push o).push { cls := .type "enumerate", data := .fields #[.none, .bool false, .ref s.heap.objs.size, rawInt 0, .none, .none] } }) := by
  refine .of_wp fun prog w A R s hyp => ?_
  obtain ⟨hp, g, d, tk, os⟩ := s
  obtain ⟨begins, rest⟩ := hyp
  have sub := sub_enumerate
  have walks : ∀ {A' : Around} {E : Value → Shared → Prop} {Q : Value → Shared → Prop}, Q (.ref hp.objs.size) ⟨hp.push o, g, d, tk, os⟩ → wpAny (model prog w) A' (pyIter v) Q E ⟨hp, g, d, tk, os⟩ := B.iter prog w _ _ ⟨hp, g, d, tk, os⟩ _ begins
  wp_walk using walks
  refine wpAny_stack_any fun st => wpAny_pure ?_
  split <;> try (rename_i c _ _ _ _ _; cases (c == Value.type "enumerate"))
  all_goals (wp_walk using walks; exact ⟨_, rfl, rest⟩)
/-- the items of the tuple at a, each in a new pair with its number -/
def Itet (K : PySem.W.Frag) (a : Addr) : It where
  go i H := ∃ (xs : List V) (x : V), SqT K H a xs ∧ xs[i]? = some x
  yld i H v H' := ∃ T x, v = .ref T ∧ H T = none ∧ H' = upd H T (.tup [.int (i : Nat), x]) ∧ ∀ xs, SqT K H a xs → xs[i]? = some x
  stop i H := ∃ xs : List V, SqT K H a xs ∧ xs.length = i
theorem turn_et {P : Program} {w : World} {K : PySem.W.Frag} {es : List Expr} {kk : Nat} {tp : Pos} {a e p : Addr} {us : Array Value} (na : a ≠ p) (ne : e ≠ p) (nea : e ≠ a) :
    Turn P w K (.Tuple es kk tp) (Itet K a) [e, p] e (fun i h => (∃ old, IsEnum h e p ((i : Nat) : Int) old) ∧ h.IsTupleIter p a i) where
  mem := List.mem_cons_self ..
  obj := by
    rintro i h ⟨⟨old, en⟩, ob, at_, _, dat⟩ b hb
    rcases List.mem_cons.mp hb with rfl | hb
    · exact ⟨_, en, nofun⟩
    · rw [List.mem_singleton.mp hb]
      exact ⟨ob, at_, fun v q => by rw [dat] at q; cases q⟩
  keep := by
    rintro i h h' ⟨⟨old, en⟩, it⟩ up
    exact ⟨⟨old, up e (by simp) _ en⟩, it.at fun o q => up p (by simp) o q⟩
  item := by
    rintro X rfl rfl rfl calm i pins s σ H E I new ⟨⟨old, en⟩, it⟩ ⟨xs, x, sq, at_⟩
    obtain ⟨its, rv, tup, _⟩ := I.tuple sq
    obtain ⟨u, hu, ru⟩ := rv.get at_
    have le : e < s.heap.objs.size := Heap.lt_size en
    have lp : p < s.heap.objs.size := by obtain ⟨_, q, _⟩ := it; exact Heap.lt_size q
    have D : Draws X.prog X.w X.A.in1 p [p, a] its.toArray.size (fun i v => its.toArray[i]? = some v) (fun i h => h.IsTupleIter p a i ∧ h.IsTuple a its.toArray) := Draws.tuple (show X.A.in1.handled = none from I.ok.hd calm) p a na its.toArray
    refine wpAny_pyNext_enum_itemC (St := fun i h => h.IsTupleIter p a i ∧ h.IsTuple a its.toArray) D en ⟨it, tup⟩ (i := i) (by rw [List.size_toArray]; exact (List.getElem?_eq_some_iff.mp hu).1) ne (by simp [ne, nea]) fun y h1 tk hy en1 st1 pair size1 up1 => ?_
    obtain rfl : y = u := by
      have e1 : its[i]? = some y := by simpa using hy
      exact Option.some.inj (e1.symm.trans hu)
    refine ⟨_, rfl, wpAny_letOwnedTupleGo_enum (s := { s with heap := h1, toks := tk + 1 }) en1 fun h2 en2 same2 => ?_⟩
    have pair2 : h2.get? s.heap.objs.size = some { cls := .type "tuple", data := .seq #[.int i tk, y] } := (same2.2 _ (Nat.ne_of_gt le)).trans pair
    have made : ObjOk X.prog X.w (upd H s.heap.objs.size (.tup [.int (i : Nat), x])) h2 s.heap.objs.size (.tup [.int (i : Nat), x]) :=
      ⟨by show 2 ≤ sizeLine; decide, [.int i tk, y], .cons ⟨_, rfl⟩ (.cons ru .nil), _, pair2, rfl, _, rfl⟩
    have stays : ∀ b ob, b ∉ [e, p] → s.heap.get? b = some ob → h2.get? b = some ob := fun b ob hb q => by
      simp only [List.mem_cons, List.not_mem_nil, or_false, not_or] at hb
      exact (same2.2 b hb.1).trans (up1 b ob hb.1 hb.2 q)
    have J := I.turnedNew (t' := tk + 1) (ch := [e, p]) stays new (Nat.le_refl _) made
    refine ⟨.ref s.heap.objs.size, _, J, rfl, ⟨_, x, rfl, I.hok.fresh (Nat.le_refl _), rfl, fun ys hy => by rw [I.tuple_inj hy sq]; exact at_⟩, ⟨⟨y, ?_⟩, st1.1.at fun o q => (same2.2 p ne.symm).trans q⟩, fun b hb => ?_⟩
    · rw [show ((i + 1 : Nat) : Int) = (i : Int) + 1 from by omega]
      exact en2
    · have lb : b < s.heap.objs.size := by
        rcases List.mem_cons.mp hb with rfl | hb
        · exact le
        · rw [List.mem_singleton.mp hb]; exact lp
      rw [upd_ne (Nat.ne_of_lt lb)]
      exact (new b hb).1
  done := by
    rintro X rfl rfl rfl calm i pins s σ H E I new ⟨⟨old, en⟩, it⟩ ⟨xs, sq, over⟩
    obtain ⟨its, rv, tup, _⟩ := I.tuple sq
    have D : Draws X.prog X.w X.A.in1 p [p, a] its.toArray.size (fun i v => its.toArray[i]? = some v) (fun i h => h.IsTupleIter p a i ∧ h.IsTuple a its.toArray) := Draws.tuple (show X.A.in1.handled = none from I.ok.hd calm) p a na its.toArray
    have ei : its.toArray.size = i := by rw [List.size_toArray, ← rv.length]; exact over
    rw [ei] at D
    obtain ⟨f0, f1, f2, f3, f4, f5⟩ := new p (by simp)
    exact wpAny_pyNext_enum_endD D en ⟨it, tup⟩ fun h' up => ⟨rfl, I.turned (t' := s.toks) (fun b o hb q => up b o hb q) f0 f1 f3 f4 f5⟩
  self := by
    rintro A i s Q E ⟨⟨_, en⟩, _⟩ q
    exact wpAny_pyIter_enum en q
def iEnumT (K : PySem.W.Frag) (ta : TA) : TI := fun σ H R => ta σ H fun vs H1 => ∃ a xs, vs = [.ref a] ∧ SqT K H1 a xs ∧ R (Itet K a) H1
theorem pi_enumT {X : Cx} {e : Expr} {ta : TA} {p pos tp : Pos} {es : List Expr} {kk : Nat} (hg : Gl X "enumerate") (hm : X.mg "enumerate" = none) (ha : PA X [e] ta) (hs : starEach [e] X.env = [(false, eval e X.env)] := by rfl) :
    PI X (.Tuple es kk tp) (.Call (.Name "enumerate" p) [e] [] pos) (iEnumT X.K ta) := by
  constructor
  intro pins s σ H R I want
  refine Call_ (ld_blt I hg hm boot_enumerate (PyProof.Rows.callWith_type1 (thn (ha.run pos pins s σ H _ I want) fun us s1 got => ?_) hs rfl))
  obtain ⟨vs, H1, J, rel, a, xs, rfl, sq, q⟩ := got
  obtain ⟨u, rfl, ru⟩ := vals1 rel
  obtain rfl : u = Value.ref a := ru
  obtain ⟨its, rv, tup, _⟩ := J.tuple sq
  have la : a < s1.heap.objs.size := by obtain ⟨_, q, _⟩ := tup; exact Heap.lt_size q
  have B := begins_tuple a its.toArray
  refine callType_new F.called_enumerate (by decide) (F.typeCall_enumerate_1 _) (F.newCall_enumerate_1 _) (fun obj => F.args_object_init_2 obj _) F.entry_enumerate_new (meets_enumB B) ⟨tup, ?_⟩
  have size1 : (s1.heap.push { cls := .type "tuple_iterator", data := .fields #[.ref a, .int 0 0] }).objs.size = s1.heap.objs.size + 1 := Heap.size_push ..
  have up : ∀ b o, s1.heap.get? b = some o → ((s1.heap.push { cls := .type "tuple_iterator", data := .fields #[.ref a, .int 0 0] }).push { cls := .type "enumerate", data := .fields #[.none, .bool false, .ref s1.heap.objs.size, rawInt 0, .none, .none] }).get? b = some o :=
    fun b o q => Heap.get?_push_of_some _ (Heap.get?_push_of_some _ q)
  have en : IsEnum ((s1.heap.push { cls := .type "tuple_iterator", data := .fields #[.ref a, .int 0 0] }).push { cls := .type "enumerate", data := .fields #[.none, .bool false, .ref s1.heap.objs.size, rawInt 0, .none, .none] }) (s1.heap.objs.size + 1) s1.heap.objs.size 0 .none := by
    have q := Heap.get?_push_size (s1.heap.push { cls := .type "tuple_iterator", data := .fields #[.ref a, .int 0 0] }) (o := { cls := .type "enumerate", data := .fields #[.none, .bool false, .ref s1.heap.objs.size, rawInt 0, .none, .none] }) rfl
    rw [size1] at q
    exact q
  have itr : ((s1.heap.push { cls := .type "tuple_iterator", data := .fields #[.ref a, .int 0 0] }).push { cls := .type "enumerate", data := .fields #[.none, .bool false, .ref s1.heap.objs.size, rawInt 0, .none, .none] }).IsTupleIter s1.heap.objs.size a 0 :=
    ⟨_, Heap.get?_push_of_some _ (Heap.get?_push_size _ rfl), rfl, rfl⟩
  rw [size1]
  refine ⟨⟨_, en, rfl⟩, wpAny_pyIter_enum en ⟨s1.heap.objs.size + 1, [s1.heap.objs.size + 1, s1.heap.objs.size], _, _, H1, rfl, J.kept (t' := s1.toks) up, turn_et (us := #[]) (Nat.ne_of_lt la) (Nat.succ_ne_self _) (Nat.ne_of_gt (Nat.lt_succ_of_lt la)), ⟨⟨.none, en⟩, itr⟩, fun b hb => ?_, q⟩⟩
  have lb : s1.heap.objs.size ≤ b := by
    rcases List.mem_cons.mp hb with rfl | hb
    · exact Nat.le_add_right _ _
    · rw [List.mem_singleton.mp hb]
      exact Nat.le_refl _
  exact J.fpOk lb (J.hok.fresh lb)
theorem g_enumT {K : PySem.W.Frag} {σ : L2.St} {H : Hp} {R : It → Hp → Prop} {ta : TA} (h : ta σ H fun vs H1 => ∃ a xs, vs = [.ref a] ∧ SqT K H1 a xs ∧ R (Itet K a) H1) : iEnumT K ta σ H R := h

open PySem.F (sub_list_set sub_list_frozenset)
/-! ### set(list of ints), sorted(set of ints) of any number -/
section
variable {P : Program} {w : World} {A : Around} {E : Value → Shared → Prop} {s : Shared}
theorem call_set_lstI {l : Addr} {items : Array Value} (ns : List Int) {Q : Value → Shared → Prop} (hh : A.handled = none) (hl : s.heap.IsList l items) (hit : IntsAre items.toList ns) (hb : ns.length + 1 < scanBound)
    (h : ∀ (h' : Heap) (tk c : Nat), SetR w h' s.heap.objs.size (fun j => decide (j ∈ ns)) c → c ≤ ns.length → (∀ b o, s.heap.get? b = some o → h'.get? b = some o) → Q (.ref s.heap.objs.size) { s with heap := h', toks := tk }) :
    wpAny (model P w) A (call (.type "set") [.ref l]) Q E s := by
  have hisz : items.size = ns.length := by
    have q := IntsAre.length hit
    rw [Array.length_toList] at q
    exact q
  obtain ⟨c, tl, hmro⟩ := F.called_set.mro
  have hmade := F.called_set.made
  have hsub := F.called_set.sub
  refine wpAny_call (codeAny_of_tree ?_)
  show wpAny _ _ (callAny (.type "set") _) _ _ _
  refine wpAny_pure ⟨Code.quiet_builtin _ (by decide +kernel), codeAny_builtin F.entry_type_call ?_⟩
  rw [Around.under_plain (weight_type_call_type "set" [.ref l] []) rfl]
  have h1 := F.called_set.notType
  have h2 := F.called_set.canCreate
  have hct := F.typeCall_set_1 (.ref l)
  repeat (any_goals (first | assumption | wp_step))

  refine codeAny_mono (code_set_led1 (.ref l) (E := E) (Q₁ := fun obj s₁ => obj = .ref s.heap.objs.size ∧ s₁ = { s with heap := s.heap.push { cls := .type "set", dict := none, data := .set #[] 0 (.fresh 0 0 (!w.params.followText "set-order")) } }) ⟨rfl, rfl⟩) fun r s₁ hr => ?_
  cases r with
  | error e => exact hr
  | ok fl =>
    cases fl with
    | ret obj =>
      obtain ⟨rfl, rfl⟩ := hr
      have hS : (s.heap.push { cls := .type "set", dict := none, data := .set #[] 0 (.fresh 0 0 (!w.params.followText "set-order")) }).get? s.heap.objs.size = some { cls := .type "set", dict := none, data := .set #[] 0 (.fresh 0 0 (!w.params.followText "set-order")) } := Heap.get?_push_size _ rfl
      have hT : Shared.TypeIs { s with heap := s.heap.push { cls := .type "set", dict := none, data := .set #[] 0 (.fresh 0 0 (!w.params.followText "set-order")) } } (.ref s.heap.objs.size) "set" := ⟨_, hS, rfl⟩
      have hli := F.called_set.init.lookup
      have hbi := F.called_set.init.bind (.ref s.heap.objs.size)
      repeat (any_goals (first | assumption | wp_step))

      refine codeAny_mono (codeAny_call_builtin (R := wants (fun r s₂ => r = .none ∧ ∃ h' tk c, s₂ = { s with heap := h', toks := tk } ∧ SetR w h' s.heap.objs.size (fun j => decide (j ∈ ns)) c ∧ c ≤ ns.length ∧
          (∀ b o, s.heap.get? b = some o → h'.get? b = some o)) E) F.called_set.init.plain F.entry_set_init (check_set_init_1 hT ?_)) fun r₂ s₂ hr₂ => ?_
      · obtain ⟨ol, hol, hcl, nl, hdl⟩ := hl
        obtain ⟨ocls, odict, odata, oslots⟩ := ol
        simp only at hcl hdl
        subst hcl; subst hdl
        have hol' : (s.heap.push { cls := .type "set", dict := none, data := .set #[] 0 (.fresh 0 0 (!w.params.followText "set-order")) }).get? l = some { cls := .type "list", dict := odict, data := .seq items nl, slots := oslots } := Heap.get?_push_of_some _ hol
        have hsls := sub_list_set
        have hslf := sub_list_frozenset
        have hne : (Value.type "list" == Value.type "dict") = false := by decide
        have hl1 : (s.heap.push { cls := .type "set", dict := none, data := .set #[] 0 (.fresh 0 0 (!w.params.followText "set-order")) }).IsList l items := ⟨_, hol', rfl, nl, rfl⟩
        unfold Builtin.«set.__init__» noKeywords Builtin.Frozenset.updateFrom
        generalize hPI : pyIter = PI
        wp_walk
        subst hPI

        refine wpAny_pyIter_list hl1 ?_
        refine wpAny_bind (wpAny_runValue ?_)
        have hlS : l < s.heap.objs.size := Heap.lt_size hol
        have hh3 : A.in1.in1.in1.handled = none := by simp [hh]
        have hz1 : (s.heap.push { cls := .type "set", dict := none, data := .set #[] 0 (.fresh 0 0 (!w.params.followText "set-order")) }).objs.size = s.heap.objs.size + 1 := Heap.size_push ..
        have hneI : l ≠ (s.heap.push { cls := .type "set", dict := none, data := .set #[] 0 (.fresh 0 0 (!w.params.followText "set-order")) }).objs.size := by
          rw [Heap.size_push]; exact Nat.ne_of_lt (Nat.lt_succ_of_lt hlS)
        have hSf : s.heap.objs.size ∉ [(s.heap.push { cls := .type "set", dict := none, data := .set #[] 0 (.fresh 0 0 (!w.params.followText "set-order")) }).objs.size, l] := by
          rw [Heap.size_push]; simp only [List.mem_cons, List.mem_singleton, List.not_mem_nil, or_false, not_or]
          exact ⟨Nat.ne_of_lt (Nat.lt_succ_self _), Nat.ne_of_gt hlS⟩
        have hval : ∀ (i : Nat) (v : Value), items[i]? = some v → ∃ k t, ns[i]? = some k ∧ v = .int k t := fun i v hv => by
          have hi : i < ns.length := by rw [← hisz]; exact (Array.getElem?_eq_some_iff.mp hv).1
          obtain ⟨t, e⟩ := PyProof.Rows.IntsAre.int_at hit i v (by rw [Array.getElem?_toList]; exact hv)
          refine ⟨ns[i], t, List.getElem?_eq_getElem hi, ?_⟩
          rw [e, List.getD_eq_getElem?_getD, List.getElem?_eq_getElem hi] <;> rfl
        refine set_update_ints ((Walks.list hh3 _ l hneI items).toS) s.heap.objs.size
          hSf ns hisz hb hval (items.size - 0) 0 _ (by omega) (Nat.zero_le _)
          ⟨⟨_, Heap.get?_push_size _ rfl, rfl, rfl⟩, (hl1.push _)⟩ ?hS0 ?hR
        case hS0 =>
          have hget : ((s.heap.push { cls := .type "set", dict := none, data := .set #[] 0 (.fresh 0 0 (!w.params.followText "set-order")) }).push { cls := .type "list_iterator", data := .fields #[.ref l, .int 0 0] }).get? s.heap.objs.size
              = some { cls := .type "set", dict := none, data := .set #[] 0 (.fresh 0 0 (!w.params.followText "set-order")) } := Heap.get?_push_of_some _ hS
          exact ⟨0, Nat.le_refl 0, setR_new_at hget⟩
        case hR =>
          intro s' c' hm hc' hS'
          obtain ⟨h', g2, d', tk', os'⟩ := s'
          have eg : g2 = s.gens := hm.gens
          have ed : d' = s.drawn := hm.drawn
          have eo : os' = s.os := hm.os
          subst eg; subst ed; subst eo
          show wpAny _ _ _ _ _ _
          refine wpAny_pure ?_
          show wpAny _ _ (ret Value.none) _ _ _
          rw [hisz] at hc'
          refine wpAny_pure ⟨rfl, h', tk', c', rfl, hS', hc', fun b o e => ?_⟩
          have hb0 : b < s.heap.objs.size := Heap.lt_size e
          have hb1 : b ≠ s.heap.objs.size := Nat.ne_of_lt hb0
          have hb2 : b ≠ (s.heap.push { cls := .type "set", dict := none, data := .set #[] 0 (.fresh 0 0 (!w.params.followText "set-order")) }).objs.size := by
            rw [Heap.size_push]; exact Nat.ne_of_lt (Nat.lt_succ_of_lt hb0)
          exact hm.heap b o (by simp only [List.mem_cons, List.mem_singleton, List.not_mem_nil, or_false, not_or]; exact ⟨hb1, hb2⟩) (Heap.get?_push_of_some _ (Heap.get?_push_of_some _ e))

      · cases r₂ with
        | error e => exact hr₂
        | ok fl₂ =>
          cases fl₂ with
          | ret r =>
            obtain ⟨rfl, h', tk, c', rfl, hS', hc', hk'⟩ := hr₂
            repeat (any_goals (first | assumption | wp_step))
            exact h _ _ _ hS' hc' hk'
          | _ => exact hr₂.elim
    | _ => exact hr.elim

theorem sorted_setA {a : Addr} {S : Int → Bool} {n : Nat} {Q : Value → Shared → Prop} (R : SetR w s.heap a S n) (hh : A.handled = none) (hz : n ≤ sizeLine)
    (hQ : ∀ s' p (out : Array Value) (c : Nat) (ns : List Int), (∀ b o, s.heap.get? b = some o → s'.heap.get? b = some o) → s'.gens = s.gens → s'.os = s.os → s.heap.objs.size ≤ p →
      s'.heap.get? p = some (seqObj "list" out c) → IntsAre out.toList ns → ns.Pairwise (· < ·) → (∀ k, k ∈ ns ↔ S k = true) → ns.length = n → Q (.ref p) s') :
    wpAny (model P w) A (call (.builtin "sorted") [.ref a]) Q E s := by
  obtain ⟨o, es, ep, t, ho, hex, hd, g, nd, hm, hb, hf, hn, hr, hl⟩ := R
  refine Calls.call_function_entry kind_sorted plain_sorted entry_sorted (args_sorted1 _) ?_
  unfold Builtin.«sorted»
  refine wpAny_bind (m := checkCount "sorted" 1 1 _) (wpAny_pure ?_)
  refine wpAny_bind (collect_set (A := A.in1) hh ⟨o, ho, hex.1, hd⟩ hf hb hr hl fun s1 vs k1 hz1 g1 o1 pm => ?_)
  have hvl : vs.length = n := by rw [pm.length_eq, List.length_map, Array.length_toList]; exact hn
  have hI : IntsAre vs (vs.map Builtin.Re.reRawOf) := ints_of vs fun v hv => by
    obtain ⟨e, he, q⟩ := List.mem_map.mp (pm.mem_iff.mp hv)
    obtain ⟨k, tk, h1, _⟩ := g e he
    exact ⟨k, tk, by rw [← q]; exact h1⟩
  have pk : (vs.map Builtin.Re.reRawOf).Perm (es.toList.map keyOf) := by
    have q := pm.map Builtin.Re.reRawOf
    rw [List.map_map] at q
    exact q
  refine wpAny_bind (wpAny_newList ?_ (by rw [hvl]; exact hz))
  have hoL : (s1.heap.push (seqObj "list" vs.toArray 0)).get? s1.heap.objs.size = some (seqObj "list" vs.toArray 0) := Heap.get?_push_size _ rfl
  refine wpAny_bind (wpAny_holding (wpAny_call_entry slot_list_sort ⟨_, hoL, rfl⟩ entry_list_sort (SrtO.list_sort_ord SrtO.swo_int hoL (by rw [hvl]; exact hz) (fun h2 => SrtO.ints_sortable hI h2) fun out a1 a2 => ⟨_, rfl, ?_⟩) (args_list_sort _)))
  obtain ⟨b1, b2, b3⟩ := SrtO.ints_out hI a1 a2
  obtain ⟨c, hc⟩ := sortedHeap_at (vs := vs) (out := out.toArray) hoL
  have pn : (out.map SrtO.iv).Perm (es.toList.map keyOf) := b2.trans pk
  refine wpAny_pure ⟨_, rfl, hQ _ s1.heap.objs.size out.toArray c _ (fun b u e => ?_) g1 o1 hz1 hc b1 (lt_of_le_nodup _ b3 (pn.nodup_iff.mpr nd)) (fun k => by rw [pn.mem_iff, ← hm k]) ?_⟩
  · have q := k1 b u e
    have hlt := Heap.lt_size q
    show (sortedHeap (s1.heap.push (seqObj "list" vs.toArray 0)) s1.heap.objs.size vs out.toArray).get? b = some u
    rw [sortedHeap_old (Nat.ne_of_lt hlt) (by rw [size_push']; exact Nat.lt_succ_of_lt hlt)]
    exact Heap.get?_push_of_some _ q
  · rw [pn.length_eq, List.length_map, Array.length_toList]; exact hn
end
/-- set(xs), a list of ints -/
def rSetLI (K : PySem.W.Frag) (w : World) : List V → Hp → VK → Prop := fun xs H Q => ∃ (l : Addr) (ns : List Int), xs = [.ref l] ∧ SqL K H l (ns.map V.int) ∧ ns.length ≤ 4000 ∧
  ∀ p n, H p = none → n ≤ ns.length → Q (.ref p) (upd H p (SetO w p (fun j => decide (j ∈ ns)) n))
/-- sorted(s), a set of ints -/
def rSortSet (w : World) : List V → Hp → VK → Prop := fun vs H Q => ∃ (a : Addr) (S : Int → Bool) (n : Nat), vs = [V.ref a] ∧ H a = some (SetO w a S n) ∧ n ≤ sizeLine ∧
  ∀ (ns : List Int) (p : Addr), ns.Pairwise (· < ·) → (∀ k : Int, k ∈ ns ↔ S k = true) → ns.length = n → H p = none → Q (.ref p) (upd H p (.lst (ns.map V.int)))
section
variable {X : Cx}
theorem cr_setLI (hc : X.calm = true) : CallR X (.type "set") (rSetLI X.K X.w) := by
  intro pins s σ H xs us Q I r h
  obtain ⟨l, ns, rfl, hl, hb, q⟩ := h
  rw [Vals.ref1 r]
  obtain ⟨its, rv, pl, hz⟩ := I.list hl
  have hn : H s.heap.objs.size = none := I.hok.fresh (Nat.le_refl _)
  refine call_set_lstI (P := X.prog) (w := X.w) ns (I.ok.hd hc) (show s.heap.IsList l its.toArray from pl.isList) (ints_of_vals rv) (by unfold scanBound; omega) fun h' tk c R1 hcn k => ?_
  exact ⟨.ref s.heap.objs.size, upd H s.heap.objs.size (SetO X.w s.heap.objs.size (fun j => decide (j ∈ ns)) c), I.laid (t' := tk) k (Nat.le_refl _) (setO_new R1), rfl, q _ c hn hcn⟩
theorem cr_sortSet (hc : X.calm = true) : CallR X (.builtin "sorted") (rSortSet X.w) := by
  intro pins s σ H vs us Q I r h
  obtain ⟨a, S, n, rfl, ha, h64, q⟩ := h
  have R := setO_get I ha
  rw [Vals.ref1 r]
  refine sorted_setA R (I.ok.hd hc) h64 fun s' p out c ns k g o hp hg hi hs hm hl => ?_
  have hlen : (ns.map V.int).length ≤ sizeLine := by rw [List.length_map, hl]; exact h64
  have hn : H p = none := I.hok.fresh hp
  have J : Inv X pins σ (upd H p (.lst (ns.map V.int))) { s with heap := s'.heap, gens := s'.gens, drawn := s'.drawn, toks := s'.toks } :=
    I.call (ch := []) (Un.laid k hp hn) (I.hok.laid k hp ⟨hlen, out.toList, c, vals_of_ints hi, hg⟩) (by rw [g]; exact I.bare) (fun _ z => nomatch z)
  have e : s' = { s with heap := s'.heap, gens := s'.gens, drawn := s'.drawn, toks := s'.toks } := by
    cases s'
    cases s
    cases o
    rfl
  rw [e]
  exact ⟨.ref p, _, J, rfl, q ns p hs hm hl hn⟩
end
/-- t == (), any tuple -/
def rEqT (K : PySem.W.Frag) : R2 := fun x y H Q => rEqG K x y H Q ∨ ∃ a b xs, x = .ref a ∧ y = .ref b ∧ SqT K H a xs ∧ SqT K H b [] ∧ Q (.bl xs.isEmpty) H
theorem op_eqT {X : Cx} (hu : X.A.units + 200 < cLine) : OpR X (compareOp .Eq) (rEqT X.K) := (op_eqG hu).or (by
  intro pins s σ H x y v u Q I rx ry ⟨a, b, xs, e1, e2, ha, hb, q⟩
  subst e1
  subst e2
  cases (show v = Value.ref a from rx)
  cases (show u = Value.ref b from ry)
  obtain ⟨us, r1, p1, _⟩ := I.tuple ha
  obtain ⟨ws, r2, p2, _⟩ := I.tuple hb
  cases r2
  have e : ((List.range (min us.toArray.size ([] : List Value).toArray.size)).all (fun _ => true) && us.toArray.size == ([] : List Value).toArray.size) = xs.isEmpty := by
    have := r1.length
    cases xs with
    | nil => cases r1; rfl
    | cons x xs => cases r1; simp
  have R := SeqAt.RcAt.tuples (A := X.A) (e := fun _ => true) p1 p2 (by omega) (fun j h1 h2 => absurd h2 (by simp))
  rw [e] at R
  exact R X.prog X.w X.xe _ ⟨.bl xs.isEmpty, H, I, rfl, q⟩)
theorem g_eqT {K : PySem.W.Frag} {H : Hp} {Q : VK} {a b : Addr} {xs : List V} (h : H a = some (.tup xs)) (hb : H b = some (.tup [])) (q : Q (.bl xs.isEmpty) H) : rEqT K (.ref a) (.ref b) H Q := .inr ⟨a, b, xs, rfl, rfl, .of h, .of hb, q⟩

/-! ### t * 0, t * 1 of a tuple that is not empty -/
theorem tuple_mulOne (l : Addr) (items : Array Value) (n : Nat) (dd : Option Addr) (sl : Array (Option Value)) (u : Tok) (c1 : (items.isEmpty || ((1 : Int) == 1)) = true) :
    Meets (Builtin.«tuple.__mul__» ⟨[.ref l, .int 1 u], []⟩) (fun _ R s => s.heap.get? l = some { cls := .type "tuple", dict := dd, data := .seq items n, slots := sl } ∧
      R (.ok (.ret (Value.ref l))) { s with heap := s.heap, toks := s.toks }) :=
  .of_wp fun prog w A R s h => by
    obtain ⟨hp, g, d, tk, os⟩ := s
    obtain ⟨hl, h⟩ := h
    have f1 := AutoSeq1.idx_int
    have f2 := AutoSeq1.sub_tuple_tuple
    wp_walk using wpAny_loadPart' hl
    repeat (first
      | (refine wpAny_ite_false (decide_eq_false (by decide)) ?_; wp_walk using wpAny_loadPart' hl)
      | (refine wpAny_ite_true (decide_eq_true c1) ?_; wp_walk using wpAny_loadPart' hl))
    exact ⟨_, rfl, h⟩
theorem tuple_mulNone (l : Addr) (items : Array Value) (n : Nat) (dd : Option Addr) (sl : Array (Option Value)) (u : Tok) (c1 : (items.isEmpty || ((0 : Int) == 1)) = false) (c2 : (decide ((0 : Int) ≤ 0) || items.isEmpty) = true) :
    Meets (Builtin.«tuple.__mul__» ⟨[.ref l, .int 0 u], []⟩) (fun _ R s => s.heap.get? l = some { cls := .type "tuple", dict := dd, data := .seq items n, slots := sl } ∧
      R (.ok (.ret (Value.ref s.heap.objs.size))) { s with heap := s.heap.push { cls := Value.type "tuple", data := Data.seq #[] }, toks := s.toks }) :=
  .of_wp fun prog w A R s h => by
    obtain ⟨hp, g, d, tk, os⟩ := s
    obtain ⟨hl, h⟩ := h
    have f1 := AutoSeq1.idx_int
    wp_walk using wpAny_loadPart' hl
    repeat (first
      | (refine wpAny_ite_false (decide_eq_false (by decide)) ?_; wp_walk using wpAny_loadPart' hl)
      | (refine wpAny_ite_false (decide_eq_false (by rw [c1]; exact Bool.false_ne_true)) ?_; wp_walk using wpAny_loadPart' hl)
      | (refine wpAny_ite_true (decide_eq_true c2) ?_; wp_walk using wpAny_loadPart' hl))
    exact ⟨_, rfl, h⟩
def rRepB (K : PySem.W.Frag) : R2 := fun x y H Q => ∃ l xs, x = .ref l ∧ SqT K H l xs ∧ xs ≠ [] ∧ ((y = .int 1 ∧ Q (.ref l) H) ∨ (y = .int 0 ∧ New H (.tup []) fun p H' => Q (.ref p) H'))
section
variable {X : Cx}
theorem op_repB : OpR X (binaryOp .Mult) (rRepB X.K) := by
  intro pins s σ H x y v u Q I rx ry h
  obtain ⟨l, xs, rfl, hT, hne, hk⟩ := h
  cases rx
  obtain ⟨its, r, ⟨⟨cls, dd, data, sl⟩, ho, hc, n, hd⟩, hs⟩ := I.tuple hT
  simp only at hc hd
  subst hc hd
  have hle : its.length = xs.length := r.length.symm
  have hn : its ≠ [] := fun e => hne (by
    rw [e] at hle
    exact List.eq_nil_of_length_eq_zero hle.symm)
  have hi : its.toArray.isEmpty = false := by
    cases its with
    | nil => exact absurd rfl hn
    | cons a b => rfl
  rcases hk with ⟨rfl, q⟩ | ⟨rfl, q⟩
  · obtain ⟨t, rfl⟩ := ry
    exact wpAny_binaryOp_repeat_ref (T := "tuple") (U := "int") (by decide) ⟨_, ho, rfl⟩ (fun s' => typeIs_int s' 1 t) noFill_tuple_mul F.fills_int_mul F.slot_int_rmul repeat_tuple F.slot_int_index.lookup
      (call_meets F.slot_int_rmul (typeIs_int s 1 t) F.entry_int_rmul (F.args_int_rmul_2 _ _) (int_rmul_tuple 1 t l its.toArray n dd sl)
        ⟨ho, rfl, ⟨_, ho, rfl⟩, call_meets F.slot_tuple_mul ⟨_, ho, rfl⟩ F.entry_tuple_mul (F.args_tuple_mul_2 _ _) (tuple_mulOne l its.toArray n dd sl t (by simp)) ⟨ho, ⟨.ref l, H, I, rfl, q⟩⟩⟩)
  · obtain ⟨t, rfl⟩ := ry
    refine wpAny_binaryOp_repeat_ref (T := "tuple") (U := "int") (by decide) ⟨_, ho, rfl⟩ (fun s' => typeIs_int s' 0 t) noFill_tuple_mul F.fills_int_mul F.slot_int_rmul repeat_tuple F.slot_int_index.lookup
      (call_meets F.slot_int_rmul (typeIs_int s 0 t) F.entry_int_rmul (F.args_int_rmul_2 _ _) (int_rmul_tuple 0 t l its.toArray n dd sl)
        ⟨ho, rfl, ⟨_, ho, rfl⟩, call_meets F.slot_tuple_mul ⟨_, ho, rfl⟩ F.entry_tuple_mul (F.args_tuple_mul_2 _ _) (tuple_mulNone l its.toArray n dd sl t (by rw [hi]; rfl) (by simp)) ⟨ho, ?_⟩⟩)
    refine ⟨.ref s.heap.objs.size, _, I.laid (t' := s.toks) (o := .tup []) (fun b ob q => Heap.get?_push_of_some _ q) (Nat.le_refl _) ?_, rfl, q.at _ (I.hok.fresh (Nat.le_refl _))⟩
    exact ⟨Nat.zero_le _, [], .nil, IsTup.new _ _⟩
end

/-! ### t[::-1] of a tuple -/
section
open HT
variable {prog : Program} {w : World} {A : Around} {s : Shared} {E : Value → Shared → Prop}
end
section
variable {X : Cx}
def tRevT (K : PySem.W.Frag) (te : TE) : TE := fun σ H Q => te σ H fun x H1 => ∃ a xs, x = .ref a ∧ SqT K H1 a xs ∧ New H1 (.tup xs.reverse) fun p H' => Q (.ref p) H'
/-- a truth and a number are added -/
def rAddB (K : PySem.W.Frag) : R2 := fun x y H Q => rAddG K x y H Q ∨ ∃ b j, x = .bl b ∧ y = .int j ∧ Q (.int ((if b = true then (1 : Int) else 0) + j)) H
theorem op_add_bi : OpR X (binaryOp .Add) (fun x y H Q => ∃ b j, x = .bl b ∧ y = .int j ∧ Q (.int ((if b = true then (1 : Int) else 0) + j)) H) := by
  intro pins s σ H x y v u Q I rx ry h
  obtain ⟨b, j, rfl, rfl, q⟩ := h
  obtain ⟨t, rfl⟩ := ry
  cases rx
  exact PySem.IntBool.add_bool_int ⟨.int _, H, I.tok _, ⟨_, rfl⟩, q⟩
theorem op_addB : OpR X (binaryOp .Add) (rAddB X.K) := op_addG.or op_add_bi
end

/-! ### defs that want to know that no repr is under way; repr of data -/
/-- what a def does, asked within A -/
def Runs (P : Program) (w : World) (K : PySem.W.Frag) (mg : Str → Option Value) (base : Heap) (CX : CXT) (k : Nat) (f : Addr) (fd : FuncData) (ps : List Str) (sp : Sp) (A : Around) : Prop :=
  ∀ (outer : List Env) (s : Shared) (H : Hp) (args : Args) (us : List Value) (vs : List V) (Q : VK) (E : XK), Room k A → Env0 P w K mg base A outer s H → BindsTo s fd args (ps.zip us) → Vals vs us → sp vs H Q E →
    codeAny (model P w) A (.call (.ref f) args) (CR CX outer P w H s Q E) s
/-- a def's promise where no repr is under way -/
structure FnOkG (P : Program) (w : World) (K : PySem.W.Frag) (mg : Str → Option Value) (base : Heap) (CX : CXT) (k : Nat) (f : Addr) (fd : FuncData) (ps : List Str) (sp : Sp) : Prop where
  long : ∀ vs H Q E, sp vs H Q E → vs.length = ps.length
  does : ∀ A : Around, A.guards = some [] → Runs P w K mg base CX k f fd ps sp A
section
variable {P : Program} {w : World} {K : PySem.W.Frag} {mg : Str → Option Value} {base : Heap} {CX : CXT} {j k : Nat} {f : Addr} {fd : FuncData} {ps N : List Str} {sp : Sp}
theorem FnOkG.mono (F : FnOkG P w K mg base CX j f fd ps sp) (h : j ≤ k) : FnOkG P w K mg base CX k f fd ps sp :=
  ⟨F.long, fun A g outer s H args us vs Q E room => F.does A g outer s H args us vs Q E (room.mono h)⟩
theorem ends_at {X : Cx} {outer : List Env} {s0 : Shared} {H0 : Hp} {Q : VK} (e1 : X.s_0 = s0) (e2 : X.H_0 = H0) (e3 : X.fs = frs outer) (e4 : X.ex = []) (e5 : X.prog = P) (e6 : X.w = w) {fl : Flow} {s' : Shared} (h : SP X [] { nx := fun _ H' => Q .non H', rt := Q } fl s') :
    match fl with
    | .ret u => CE outer P w H0 s0 Q u s'
    | .next => CE outer P w H0 s0 Q Value.none s'
    | _ => False := by
  subst e1 e2 e5 e6
  cases fl with
  | next =>
    obtain ⟨_, H', J, q⟩ := h
    have b := J.base
    rw [e3, e4] at b
    exact ⟨V.non, H', J.os, J.bare, b, J.hok, rfl, q⟩
  | ret u =>
    obtain ⟨v, _, H', J, rv, q⟩ := h
    have b := J.base
    rw [e3, e4] at b
    exact ⟨v, H', J.os, J.bare, b, J.hok, rv, q⟩
  | brk => exact h.choose_spec.choose_spec.2
  | cont => exact h.choose_spec.choose_spec.2
theorem runs_of {A : Around} {name qual : Str} {params : Arguments} {body : List Stmt} {scope : Scope} {dV kV doc pm cdv ct oc : Value} {an od : Option Addr} {osl : Array (Option Value)}
    (at_ : K.lookup f = some ⟨oc, od, .func (PySem.W.fnOf name qual params body scope dV kV doc pm an cdv ct), osl⟩) (code : PySem.W.codeIn K cdv qual = true) (S : FnScope N ps scope) (long : ∀ vs H Q E, sp vs H Q E → vs.length = ps.length)
    (walk : ∀ (outer : List Env) (s : Shared) (H : Hp) (vs : List V) (Q : VK) (E : XK), Room k (A.deeper (envOfC qual scope s.heap.objs.size f cdv)) → sp vs H Q E →
      ∃ t, PSs (cxOf CX P w K mg base N qual scope f cdv A outer s H E) body t ∧ t { nx := fun _ H' => Q .non H', rt := Q } (start N vs) H) :
    Runs P w K mg base CX (k + 1) f (PySem.W.fnOf name qual params body scope dV kV doc pm an cdv ct) ps sp A := by
  intro outer s H args us vs Q E room env binds rel want
  have stays : ∀ b o, base.get? b = some o → s.heap.get? b = some o := fun b o e => (env.bs b o e).1
  have inK := env.mod.kin.keeps stays
  have many := long _ _ _ _ want
  have slots : ∀ y ∈ ps.zip us, scope.names.lookup y.1 = some .local ∨ (scope.names.lookup y.1 = some .cell ∧ ((cellsFrom (s.heap.objs.size + 1) scope.names []).lookup y.1).isSome = true) := by
    rintro ⟨n, v⟩ hy
    exact (S.par n (List.of_mem_zip hy).1).imp id fun q => ⟨q, PySem.W.cellsFrom_some _ _ _ (.inl q)⟩
  apply codeAny_call_function room.depth (inK _ _ at_) rfl S.co S.gen rfl (PySem.W.codeRec_of inK code)
  apply binds
  apply wpAny_newFunctionEnv_cells S.kind slots
  rintro _ rfl s1 made
  obtain ⟨t, walked, holds⟩ := walk outer s H vs Q E (room.deeper _) want
  refine ⟨(env.mod.nolimit.keeps stays).keeps made.toInCall.keep, codeAny_func (wpAny_mono (walked.run [] s1 _ H _ (inv_start S room.hd env many rel made) holds) (fun fl s' h => ?_) fun _ _ h => h)⟩
  have e := ends_at (outer := outer) rfl rfl rfl rfl rfl rfl h
  cases fl with
  | next => exact e
  | ret u => exact e
  | brk => exact False.elim e
  | cont => exact False.elim e
theorem okG {x qual : Str} {params : Arguments} {body : List Stmt} {scope : Scope} {dvs : List V} {kws : List (Str × V)} (F : FunD K x qual params body scope dvs kws f fd) (S : FnScope N ps scope) (long : ∀ vs H Q E, sp vs H Q E → vs.length = ps.length)
    (walk : ∀ (cdv : Value) (A : Around) (outer : List Env) (s : Shared) (H : Hp) (vs : List V) (Q : VK) (E : XK), Room k (A.deeper (envOfC qual scope s.heap.objs.size f cdv)) → A.guards = some [] → sp vs H Q E →
      ∃ t, PSs (cxOf CX P w K mg base N qual scope f cdv A outer s H E) body t ∧ t { nx := fun _ H' => Q .non H', rt := Q } (start N vs) H) : FnOkG P w K mg base CX (k + 1) f fd ps sp := by
  obtain ⟨_, _, _, _, _, _, _, cdv, _, _, rfl, at_, code, _⟩ := F.ex
  exact ⟨long, fun A g => runs_of at_ code S long fun outer s H vs Q E room want => walk cdv A outer s H vs Q E room g want⟩
end
structure CalG (P : Program) (w : World) (K : PySem.W.Frag) (mg : Str → Option Value) (base : Heap) (k : Nat) (x : Str) (sp : Sp) : Prop where
  ex : ∃ (f : Addr) (fd : FuncData) (ps : List Str), FnOkG P w K mg base CX0 k f fd ps sp ∧ mg x = some (.ref f) ∧ PySem.W.keepIn K (.ref f) = true ∧ Binds K fd ps []
theorem CalG.mono {P : Program} {w : World} {K : PySem.W.Frag} {mg : Str → Option Value} {base : Heap} {i k : Nat} {x : Str} {sp : Sp} (c : CalG P w K mg base i x sp) (h : i ≤ k) : CalG P w K mg base k x sp := by
  obtain ⟨f, fd, ps, F, a, b, d⟩ := c.ex
  exact ⟨f, fd, ps, F.mono h, a, b, d⟩
theorem calG_mk {P : Program} {w : World} {K : PySem.W.Frag} {mg : Str → Option Value} {base : Heap} {x : Str} {params : Arguments} {body : List Stmt} {scope : Scope} {f : Addr} {fd : FuncData} {N ps : List Str} {k : Nat} {sp : Sp} (F : FunD K x x params body scope [] [] f fd) (hm : mg x = some (.ref f)) (S : FnScope N ps scope)
    (b : Binds K fd ps []) (len : ∀ vs H Q E, sp vs H Q E → vs.length = ps.length)
    (hbody : ∀ (cdv : Value) (A : Around) (outer : List Env) (s : Shared) (H : Hp) (vs : List V) (Q : VK) (E : XK), Room k (A.deeper (envOfC x scope s.heap.objs.size f cdv)) → A.guards = some [] → sp vs H Q E →
      ∃ t, PSs (cxOf CX0 P w K mg base N x scope f cdv A outer s H E) body t ∧ t { nx := fun _ H' => Q .non H', rt := Q } (start N vs) H) : CalG P w K mg base (k + 1) x sp :=
  ⟨f, fd, ps, okG F S len hbody, hm, F.kp, b⟩
section
variable {X : Cx} {k : Nat} {x : Str} {sp : Sp} {p pos : Pos} {e : Expr} {es : List Expr} {t : TA}
theorem pe_calG (c : CalG X.prog X.w X.K X.mg X.base k x sp) (hr : Room k X.A) (hgd : X.A.guards = some []) (hg : Gl X x) (ha : PA X (e :: es) t)
    (hdb : (x == ("__debug__" : Str)) = false := by decide) (he : starEach (e :: es) X.env = (false, eval e X.env) :: starEach es X.env := by rfl) (hpl : (backTo pos (starEach es X.env)).any (·.1) = false := by rfl) :
    PE X (.Call (.Name x p) (e :: es) [] pos) (tCall sp [] E0 t) := by
  obtain ⟨f, fd, ps, F, at_, kept, binds⟩ := c.ex
  constructor
  intro pins s σ H Q I h
  apply wpAny_Call_Name_kw
  refine ld_glob I hg at_ (PySem.W.callWith_K (h₀ := X.base) I.ok.mod.kin kept ?_ he hpl) hdb
  refine thn (ha.run pos pins s σ H _ I h) fun us s1 got => ?_
  obtain ⟨vs, H1, J, rel, want⟩ := got
  replace want : sp vs H1 Q E0 := List.append_nil vs ▸ want
  have many : us.length = ps.length := rel.length.symm.trans (F.long _ _ _ _ want)
  have bd := binds s1 us J.kIn (by rw [List.append_nil]; exact many)
  rw [List.append_nil] at bd
  refine ⟨J.kIn, wpAny_call (codeAny_mono (F.does X.A hgd X.stack s1 H1 ⟨us, []⟩ us vs Q E0 hr J.env0 bd rel want) fun r s' got => ?_)⟩
  match r, got with
  | .error e, got => exact pass0 pins σ H1 s1 e s' J got
  | .ok (.ret u), got => exact J.after got
  | .ok .next, got => exact got.elim
  | .ok .brk, got => exact got.elim
  | .ok .cont, got => exact got.elim
/-- repr of data -/
def rRepr (K : PySem.W.Frag) : List V → Hp → VK → Prop := fun xs H Q => ∃ v d, xs = [v] ∧ Dp K H v d ∧ d.showable = true ∧ d.hasDict = false ∧ d.depth ≤ 90 ∧ d.shown.length ≤ sizeLine ∧ Q (.str d.shown) H
theorem cr_repr (hgd : X.A.guards = some []) (hu : X.A.units + 200 < cLine) : CallR X (.builtin "repr") (rRepr X.K) := by
  intro pins s σ H xs us Q I r h
  obtain ⟨v, d, rfl, hd, hs, hn, hdp, hz, q⟩ := h
  obtain ⟨u, rfl, ru⟩ := vals1 r
  obtain ⟨as, rd⟩ := Dp.reads I d v u hd ru
  have gen : ∀ {a : Addr}, u = .ref a → wpAny (model X.prog X.w) X.A (call (.builtin "repr") [u]) (EP X pins σ Q) X.xe s := by
    rintro a rfl
    refine repr_of_reads' rd hs (fun h' => by rw [hn] at h'; cases h') hgd (by omega) (fun _ _ e => e) (fun h' u tk hk => ?_) hz
    exact ⟨.str d.shown, H, I.kept (t' := tk) hk, ⟨_, rfl⟩, q⟩
  cases hd with
  | non =>
    obtain rfl : u = Value.none := ru
    exact PySem.P.repr_of_none ⟨.str _, H, I.tok _, ⟨_, rfl⟩, by simpa only [PyData.shown] using q⟩
  | bl b =>
    obtain rfl : u = Value.bool b := ru
    exact PySem.P.repr_of_bool ⟨.str _, H, I.tok _, ⟨_, rfl⟩, by simpa only [PyData.shown] using q⟩
  | int i =>
    obtain ⟨t, rfl⟩ := ru
    exact PySem.P.repr_of_int (by simpa [PyData.showable] using hs) ⟨.str _, H, I.tok _, ⟨_, rfl⟩, by simpa only [PyData.shown] using q⟩
  | str x =>
    obtain ⟨t, rfl⟩ := ru
    exact PySem.P.repr_of_str ⟨.str _, H, I.tok _, ⟨_, rfl⟩, by simpa only [PyData.shown] using q⟩ (by simpa only [PyData.shown] using hz)
  | lst _ _ => exact gen ru
  | tup _ _ => exact gen ru
/-- list.pop(i) -/
def rPopA : V → List V → Hp → VK → Prop := fun x vs H Q => ∃ l v xs, x = .ref l ∧ vs = [.int 0] ∧ H l = some (.lst (v :: xs)) ∧ Put H l (.lst xs) fun H' => Q v H'
theorem mt_popA : MtR X "list.pop" rPopA := mtr_imp mt_popAt fun x ys H Q ⟨l, v, xs, e1, e2, h, q⟩ => ⟨l, v :: xs, 0, 0, v, e1, e2, h, by decide, by decide, by simp [seqIndex?], rfl, by
  rw [List.eraseIdx_cons_zero]
  exact q.at⟩
theorem g_popA {H : Hp} {a : Addr} {v : V} {xs : List V} {Q : VK} (h : H a = some (.lst (v :: xs))) (q : Put H a (.lst xs) fun H' => Q v H') : rPopA (.ref a) [.int 0] H Q := ⟨a, v, xs, rfl, rfl, h, q⟩
theorem g_repr {K : PySem.W.Frag} {H : Hp} {v : V} {d : PyData} {Q : VK} (h : Dp K H v d) (h1 : d.showable = true) (h2 : d.hasDict = false) (h3 : d.depth ≤ 90) (h4 : d.shown.length ≤ sizeLine) (q : Q (.str d.shown) H) : rRepr K [v] H Q := ⟨v, d, rfl, h, h1, h2, h3, h4, q⟩
end
/-! ### a law's end -/
/-- all that is tracked at first: the script at a, where the module has it not -/
def onlyAt (K : PySem.W.Frag) (a : Addr) (o : Obj) (xs : List V) : Hp := fun b => if b = a ∧ K.lookup a = none then some (.frz o (.lst xs)) else none
section
variable {P : Program} {w : World} {K : PySem.W.Frag} {h : Heap} {a b : Addr} {o : Obj} {xs : List V} {vs : List Value}
theorem onlyAt_some {u : HO} (e : onlyAt K a o xs b = some u) : b = a ∧ K.lookup a = none ∧ u = .frz o (.lst xs) := by
  unfold onlyAt at e
  split at e
  · rename_i c
    cases e
    exact ⟨c.1, c.2, rfl⟩
  · cases e
theorem onlyAt_none (e : b ≠ a) : onlyAt K a o xs b = none := if_neg fun c => e c.1
theorem onlyAt_only : Only (onlyAt K a o xs) := fun b => by
  cases e : onlyAt K a o xs b with
  | none => exact .inl rfl
  | some u => exact .inr ⟨o, xs, by rw [(onlyAt_some e).2.2]⟩
theorem onlyAt_sq (inK : K.In h) (at_ : h.get? a = some { cls := .type "list", data := .seq vs.toArray }) (rel : Vals xs vs) (few : xs.length ≤ sizeLine) : SqL K (onlyAt K a { cls := .type "list", data := .seq vs.toArray } xs) a xs := by
  cases e : K.lookup a with
  | none => exact .inl (.inr ⟨_, if_pos ⟨rfl, e⟩⟩)
  | some ob =>
    have e' := inK a ob e
    rw [at_] at e'
    obtain rfl := Option.some.inj e'
    exact .inr ⟨_, vs.toArray, _, e, rfl, rfl, rfl, by rw [List.size_toArray, ← rel.length]; exact few, by simpa using rel⟩
theorem onlyAt_ok (at_ : h.get? a = some { cls := .type "list", data := .seq vs.toArray }) (rel : Vals xs vs) (few : xs.length ≤ sizeLine) : HOk P w (onlyAt K a { cls := .type "list", data := .seq vs.toArray } xs) h := by
  intro b u e
  obtain ⟨rfl, _, rfl⟩ := onlyAt_some e
  exact ⟨at_, few, vs, _, rel, at_⟩
/-- what is not the script is not tracked -/
theorem onlyAt_hid (at_ : h.get? a = some { cls := .type "list", data := .seq vs.toArray }) {ob : Obj} (e : h.get? b = some ob) (d : ∀ q n, ob.data ≠ .seq q n) : (hidT h (onlyAt K a { cls := .type "list", data := .seq vs.toArray } xs)).get? b = some ob := by
  refine hidT_get e (onlyAt_none fun z => ?_)
  subst z
  rw [at_] at e
  obtain rfl := Option.some.inj e
  exact d _ _ rfl
theorem onlyAt_ns (at_ : h.get? a = some { cls := .type "list", data := .seq vs.toArray }) {m : Str → Option Value} (n : h.Ns b m) : (hidT h (onlyAt K a { cls := .type "list", data := .seq vs.toArray } xs)).Ns b m := by
  obtain ⟨ob, es, ep, e, d, r⟩ := n
  exact ⟨ob, es, ep, onlyAt_hid at_ e (fun q n z => by rw [d] at z; cases z), d, r⟩
theorem onlyAt_in (inK : K.In h) : K.In (hidT h (onlyAt K a o xs)) := fun b ob e => hidT_get (inK b ob e) (by
  cases q : onlyAt K a o xs b with
  | none => rfl
  | some u =>
    obtain ⟨rfl, n, _⟩ := onlyAt_some q
    rw [n] at e
    cases e)
/-- behind the law all old objects stand as they were -/
theorem onlyAt_old {s0 s' : Shared} {H' : Hp} (ok : HOk P w (onlyAt K a o xs) s0.heap) (ok' : HOk P w H' s'.heap) (un : Un [] [] (onlyAt K a o xs) H' s0.heap s'.heap) : OldK s0.heap s'.heap := by
  refine OldK.of_keep fun b ob e => ?_
  cases q : onlyAt K a o xs b with
  | none => exact un.keep b ob e q List.not_mem_nil List.not_mem_nil
  | some u =>
    have hu := (onlyAt_some q).2.2
    subst hu
    have now := (ok' b _ (un.frzs b _ _ q)).1
    have then_ := (ok b _ q).1
    rw [e] at then_
    rw [now, ← Option.some.inj then_]
end
theorem law_callG {P : Program} {w : World} {K : PySem.W.Frag} {mg mb : Str → Option Value} {k : Nat} {fa a : Addr} {fd : FuncData} {x : Str} {sp : Sp} {s₁ : Shared} {vs : List Value} {ns : List Int}
    (inK : K.In s₁.heap) (nsG : s₁.heap.Ns mainGlobals mg) (nsB : s₁.heap.Ns builtinsNs mb) (boot : ∀ x : Str, x ≠ "__name__" → mb x = bootBuiltins x) (free : s₁.heap.NoLimit) (noGens : s₁.gens = #[])
    (at_ : s₁.heap.get? a = some { cls := .type "list", data := .seq vs.toArray }) (whole : IntsAre vs ns) (few : ns.length ≤ sizeLine) (room : Room k callerA)
    (F : ∀ base : Heap, K.In base → base.Ns mainGlobals mg → FnOkG P w K mg base CX0 k fa fd [x] sp) (binds : ∀ (s : Shared) (u : Value), BindsTo s fd ⟨[u], []⟩ [(x, u)])
    (want : ∀ H : Hp, Only H → SqL K H a (ns.map V.int) → sp [.ref a] H (fun v _ => v = .bl true) fun _ _ _ => False) :
    codeAny (model P w) callerA (.call (.ref fa) ⟨[.ref a], []⟩) (fun r s' => r = .ok (.ret (.bool true)) ∧ OldK s₁.heap s'.heap ∧ s'.os = s₁.os ∧ AllBare s'.gens) s₁ := by
  have rel := vals_ints whole
  have few' : (ns.map V.int).length ≤ sizeLine := by rw [List.length_map]; exact few
  have ok : HOk P w (onlyAt K a { cls := .type "list", data := .seq vs.toArray } (ns.map V.int)) s₁.heap := onlyAt_ok at_ rel few'
  have inB : K.In (hidT s₁.heap (onlyAt K a { cls := .type "list", data := .seq vs.toArray } (ns.map V.int))) := onlyAt_in inK
  have modB : Mod K mg (hidT s₁.heap (onlyAt K a { cls := .type "list", data := .seq vs.toArray } (ns.map V.int))) :=
    ⟨inB, onlyAt_ns at_ nsG, ⟨mb, onlyAt_ns at_ nsB, boot⟩, by obtain ⟨mc, h1, h2⟩ := free; exact ⟨mc, onlyAt_ns at_ h1, h2⟩⟩
  refine codeAny_mono ((F _ inB (onlyAt_ns at_ nsG)).does callerA rfl [] s₁ _ ⟨[.ref a], []⟩ [.ref a] [.ref a] _ _ room
    ⟨rfl, modB, fun b o e => of_hidT e, Nat.le_of_eq (hidT_size _ _), trivial, fun b hb => (List.not_mem_nil hb).elim, ok, .of_eq noGens⟩ (binds s₁ (.ref a)) (.cons rfl .nil) (want _ onlyAt_only (onlyAt_sq inK at_ rel few'))) fun r s' got => ?_
  match r, got with
  | .error e, got => exact (show False from got).elim
  | .ok .next, got => exact got.elim
  | .ok .brk, got => exact got.elim
  | .ok .cont, got => exact got.elim
  | .ok (.ret u), got =>
    obtain ⟨v, H', os, bare, un, ok', rv, q⟩ := got
    replace q : v = .bl true := q
    subst q
    obtain rfl : u = Value.bool true := rv
    exact ⟨rfl, onlyAt_old ok ok' un, os, bare⟩
/-- a law's end -/
theorem walk_ofG {l : PySem.W.OpenLaw} {n k : Nat} {q : Program} {loose : List Str} {XP : (Str → Option Value) → Heap → Prop} {YP : World → Heap → Prop} {d : DefRec} {x : Str}
    (most : l.most = some n) (few : n ≤ sizeLine) (plain : d.params.defaults = []) (room : Room k callerA)
    (F : ∀ (w : World) (mg : Str → Option Value) (fa : Addr) (h : Heap), YP w h → h.Ns mainGlobals mg → mg d.name = some (.ref fa) →
      ∃ (K : PySem.W.Frag) (fd : FuncData) (sp : Sp), K.In h ∧ (∀ (s : Shared) (u : Value), BindsTo s fd ⟨[u], []⟩ [(x, u)]) ∧
        (∀ (H : Hp) (a : Addr) (ns : List Int), ns.length ≤ n → Only H → SqL K H a (ns.map V.int) → sp [.ref a] H (fun v _ => v = .bl true) fun _ _ _ => False) ∧
        ∀ base : Heap, K.In base → base.Ns mainGlobals mg → FnOkG l.prog w K mg base CX0 k fa fd [x] sp) :
    PySem.W.WalkO q loose XP YP l.row.toRowW d [] (fun f vs => PySem.call f vs) := by
  apply Att.attach_call most plain
  intro w s₀ s₁ mg mb fa o pm cd doc a vs ns G Y _ _ _ hmg at_ whole len gens
  obtain ⟨K, fd, sp, inK, binds, want, does⟩ := F w mg fa _ Y G.T.g hmg
  exact law_callG inK G.T.g G.T.b G.T.builtins G.T.nolimit gens at_ whole (Nat.le_trans len few) room does binds fun H hO hS => want H a ns len hO hS

local macro_rules | `(tactic| walk_at "g1") => `(tactic| first
  | with_reducible refine g_seq ?_ | with_reducible refine g_asg ?_ | with_reducible refine g_op ?_ | with_reducible refine g_ixop ?_ | ((with_reducible refine g_ixL (xs := ?gx) (v := ?gv) (SqL.of ?gh) ?ge ?_); (case gh => assumption); (case ge => exact rfl)) | with_reducible refine g_c ?_
  | ((with_reducible refine g_var (v := ?gv) ?gh ?_); (case gh => exact rfl))
  | ((with_reducible refine g_name (σ' := ?gs) ?gh ?_); (case gh => (dsimp only [List.set]; exact rfl)))
  | with_reducible refine g_cons ?_ | with_reducible refine g_nil ?_ | with_reducible refine g_ifs ?_ | with_reducible refine g_test ?_ | with_reducible refine g_bl ?_ | with_reducible refine g_cb ?_
  | with_reducible refine g_addI ?_ | with_reducible refine g_subI ?_ | with_reducible refine g_eqI ?_ | with_reducible refine g_eqS ?_ | with_reducible refine g_neI ?_ | with_reducible refine g_neS ?_
  | with_reducible refine g_ltI ?_ | with_reducible refine g_leI ?_ | with_reducible refine g_gtI ?_ | with_reducible refine g_geI ?_
  | with_reducible refine g_ret ?_ | with_reducible refine g_next ?_ | with_reducible refine g_call ?_ | with_reducible refine g_drop ?_ | with_reducible refine g_sub ?_
  | with_reducible refine g_and ?_ | with_reducible refine g_or ?_ | with_reducible refine g_not ?_ | with_reducible refine g_tru ?_ | with_reducible refine g_trubl ?_ | with_reducible refine g_truint ?_ | with_reducible refine g_ifx ?_
  | with_reducible refine g_abs ?_ | with_reducible refine g_max2 ?_ | with_reducible refine g_min2 ?_ | with_reducible refine g_intI ?_ | with_reducible refine g_intB ?_
  | with_reducible refine g_tup ?_ | with_reducible refine g_lst ?_ | ((with_reducible refine g_len ?gl ?_); (case gl => (show _ ≤ 16777216; simp only [List.length_cons, List.length_nil]; omega))) | with_reducible refine g_dnew ?_
  | with_reducible refine g_bm ?_ | with_reducible refine g_bm0 ?_ | with_reducible refine g_m1 ?_ | with_reducible refine g_isstr ?_ | with_reducible refine g_sl ?_ | with_reducible refine g_nopart ?_ | with_reducible refine g_part ?_ | with_reducible refine g_ispart ?_
  | with_reducible refine g_un ?_ | with_reducible refine g_neg ?_ | with_reducible refine g_andT ?_ | with_reducible refine g_orT ?_ | with_reducible refine g_notT ?_ | with_reducible refine g_rev ?_ | with_reducible refine g_par ?_ | with_reducible refine g_lc ?_ | with_reducible refine g_for ?_ | with_reducible refine g_rng1 ?_ | with_reducible refine g_yes ?_ | with_reducible refine g_isS ?_ | with_reducible refine g_disp ?_ | with_reducible refine g_pcons ?_ | with_reducible refine g_pnil ?_ | with_reducible refine g_get2 ?_)
local macro_rules | `(tactic| walk_at "go") => `(tactic| repeat walk_at "g1")

def topS (i : Nat) : Stmt := PySem.Challenge.pw_lazywebs_k44_bent_rows.main.body.getD i (.Pass ⟨0, 0, 0, 0⟩)
/-! ### the head -/
def dd (x : Str) (i : Nat) : He.DefD := ⟨(x, none), x, x, defArgs (topS i), defBody (topS i), defScope (topS i), [], []⟩
def hfn : List He.DefD := [dd "within" 3, dd "in_order" 4, dd "bodies" 6, dd "number_of" 7, dd "things_of" 8, dd "body_of" 9, dd "house_of" 12, dd "opening" 13, dd "building" 14, dd "is_alike" 16, dd "behind_all" 17, dd "doings_all" 18, dd "sums_end" 19, dd "is_turn" 20, dd "turns_end" 21, dd "sides_end" 22, dd "doings" 23, dd "endings" 24, dd "is_one" 25, dd "lets_by" 26, dd "_law_pen" 28, dd "_law_draw" 29, dd "_law_names" 30, dd "_law_number" 31, dd "_law_leaf" 32, dd "_law_fits" 33, dd "_law_call" 34, dd "_law_let" 35, dd "_law_part" 36, dd "_law_loop" 37, dd "_law_body" 38, dd "_law_program" 39, dd "_law_all_within" 40, dd "_law_body_of" 41, dd "_law_ways" 42, dd "_law_opened" 43, dd "_law_built" 44, dd "_law_done" 45, dd "_law_functions" 46, dd "_law_same" 47, dd "_law_met" 48, dd "_law_turned" 49, dd "_law_ends" 50, dd "_law_let_by" 51, dd "_law_other" 52, dd "_law_bent_step" 53, dd "_law_bent" 54, dd "law" 55]
def hfa : List He.Fa := [.glo "within", .glo "in_order", .glo "bodies", .glo "number_of", .glo "things_of", .glo "body_of", .glo "house_of", .glo "opening", .glo "building", .glo "is_alike", .glo "behind_all", .glo "doings_all", .glo "sums_end", .glo "is_turn", .glo "turns_end", .glo "sides_end", .glo "doings", .glo "endings", .glo "is_one", .glo "lets_by", .glo "_law_pen", .glo "_law_draw", .glo "_law_names", .glo "_law_number", .glo "_law_leaf", .glo "_law_fits", .glo "_law_call", .glo "_law_let", .glo "_law_part", .glo "_law_loop", .glo "_law_body", .glo "_law_program", .glo "_law_all_within", .glo "_law_body_of", .glo "_law_ways", .glo "_law_opened", .glo "_law_built", .glo "_law_done", .glo "_law_functions", .glo "_law_same", .glo "_law_met", .glo "_law_turned", .glo "_law_ends", .glo "_law_let_by", .glo "_law_other", .glo "_law_bent_step", .glo "_law_bent", .glo "law", .free "list", .free "len", .free "enumerate", .free "tuple", .free "isinstance", .free "zip", .free "all", .free "str", .free "int", .free "bool", .free "set", .free "sorted", .free "max", .free "abs", .free "range", .free "min", .free "repr", .glo "PARTS", .glo "OPERATIONS", .glo "SIDES"]
def hts : List He.Tab := [((fun K => He.ga K "PARTS"), ["give", "plus", "less", "times", "below", "when", "pair", "left", "right"])]
def hex (K : PySem.W.Frag) : Bool := He.valsB K (He.ga K "PARTS") [("give", .int 2), ("plus", .int 2), ("less", .int 2), ("times", .int 2), ("below", .int 2), ("when", .int 3), ("pair", .int 2), ("left", .int 1), ("right", .int 1)] && He.tupB K "OPERATIONS" [.str "plus", .str "less", .str "times", .str "below"] && He.tupB K "SIDES" [.str "left", .str "right"]
abbrev hR : PySem.W.OpenRow := PySem.W.OpenLaw.row PySem.Challenge.rw_lazywebs_k44_bent_rows
abbrev hk : PySem.W.Hook := He.hookX 5 hfa hfn hts [] hex
def ob (s : PySem.W.SharedT) : He.AlX := He.obsX 5 hfa hfn hts [] hex (HandSHeadRun.getT s)
theorem ob_eq (s : PySem.W.SharedT) : ob s = hk.obs s.abs := He.obsX_eq (HandSHeadRun.getT_eq s)
def loose0 : List Str := ["PARTS", "OPERATIONS", "within", "in_order", "bodies", "number_of", "things_of", "body_of", "SIDES", "house_of", "opening", "building", "is_alike", "behind_all", "doings_all", "sums_end", "is_turn", "turns_end", "sides_end", "doings", "endings", "is_one", "lets_by", "_law_pen", "_law_draw", "_law_names", "_law_number", "_law_leaf", "_law_fits", "_law_call"]
def loose1 : List Str := ["_law_let", "_law_part", "_law_loop", "_law_body", "_law_program", "_law_all_within", "_law_body_of", "_law_ways", "_law_opened", "_law_built", "_law_done", "_law_functions", "_law_same", "_law_met", "_law_turned", "_law_ends", "_law_let_by", "_law_other", "_law_bent_step", "_law_bent"]
def hloose : List Str := loose0 ++ loose1
theorem hrunF (w : World) : HandSHeadRun.RunEq hR (PySem.W.view hR.prog [55]) hk ob 6000 hloose (w.withFollow "special-get-raises" false) := by
  intro os
  kernel_rfl
theorem hrunT (w : World) : HandSHeadRun.RunEq hR (PySem.W.view hR.prog [55]) hk ob 6000 hloose (w.withFollow "special-get-raises" true) := by
  intro os
  kernel_rfl
theorem hrun (w : World) : HandSHeadRun.RunEq hR (PySem.W.view hR.prog [55]) hk ob 6000 hloose w :=
  PySem.W.byRow2 "special-get-raises" (P := fun w => HandSHeadRun.RunEq hR (PySem.W.view hR.prog [55]) hk ob 6000 hloose w) hrunF hrunT w
/-! ### the readings of the defs -/
def t_within (K : PySem.W.Frag) (w : World) : TS :=
  (tSeq (tIfS (tTest (tOp (rInG K w false) (tIxG K w (tVar 0) (tC (.int 0))) (tC (.ref (He.ga K "PARTS"))))) (tRet (tCB (rListG K) (tCons (tSl (rSlG K) (tVar 0) (tPart (tC (.int 1))) tNoPart) tNil))) tNext)
  (tSeq (tIfS (tTest (tOp (rEqG K) (tIxG K w (tVar 0) (tC (.int 0))) (tC (.str "let")))) (tRet (tOp (rAddG K) (tLc (iSeq K (tIxG K w (tVar 0) (tC (.int 1)))) (gTup K 2 (gCons (gName 1) (gCons (gName 2) gNil))) tYes (tVar 2) [1, 2]) (tLstN (tCons (tIxG K w (tVar 0) (tC (.int 2))) tNil)))) tNext)
  (tRet (tLstN tNil))))
def t_in_order (K : PySem.W.Frag) (w : World) (s_within : Sp) : TS :=
  (tSeq (tAsg (tLstN tNil) (gName 1))
  (tSeq (tAsg (tLstN (tCons (tVar 0) tNil)) (gName 2))
  (tSeq (tWhile (tTest (tOp (rNeG K) (tVar 2) (tLstN tNil))) (tSeq (tAsg (tBM0 K "list" rPopG (tVar 2)) (gName 3))
  (tSeq (tDrop (tBM K "list" rAppendG (tVar 1) (tCons (tVar 3) tNil)))
  (tDrop (tBM K "list" rExtendG (tVar 2) (tCons (tRevG K (tCall s_within [] E0 (tCons (tVar 3) tNil))) tNil))))))
  (tRet (tVar 1)))))
def t_bodies (K : PySem.W.Frag) (w : World) : TS :=
  (tRet (tOp (rAddG K) (tLc (iSeq K (tIxG K w (tVar 0) (tC (.int 0)))) (gTup K 3 (gCons (gName 1) (gCons (gName 2) (gCons (gName 3) gNil)))) tYes (tVar 3) [1, 2, 3]) (tLstN (tCons (tIxG K w (tVar 0) (tC (.int 1))) tNil))))
def t_number_of (K : PySem.W.Frag) (w : World) : TS :=
  (tSeq (tAsg (tLc (iSeq K (tIxG K w (tVar 0) (tC (.int 0)))) (gTup K 3 (gCons (gName 3) (gCons (gName 4) (gCons (gName 5) gNil)))) tYes (tVar 3) [3, 4, 5]) (gName 2))
  (tRet (tIf (tTest (tOp (rInG K w false) (tVar 1) (tVar 2))) (tBM K "list" (rIndex K) (tVar 2) (tCons (tVar 1) tNil)) (tCB (rLenG K) (tCons (tVar 2) tNil)))))
def t_things_of (K : PySem.W.Frag) (w : World) (s_number_of : Sp) : TS :=
  (tSeq (tAsg (tCall s_number_of [] E0 (tCons (tVar 0) (tCons (tVar 1) tNil))) (gName 2))
  (tRet (tIf (tTest (tOp (rEqG K) (tVar 2) (tCB (rLenG K) (tCons (tIxG K w (tVar 0) (tC (.int 0))) tNil)))) (tTupN tNil) (tIxG K w (tIxG K w (tIxG K w (tVar 0) (tC (.int 0))) (tVar 2)) (tC (.int 1))))))
def t_body_of (K : PySem.W.Frag) (w : World) (s_bodies : Sp) (s_number_of : Sp) : TS :=
  (tRet (tIxG K w (tCall s_bodies [] E0 (tCons (tVar 0) tNil)) (tCall s_number_of [] E0 (tCons (tVar 0) (tCons (tVar 1) tNil)))))
def t_house_of (K : PySem.W.Frag) (w : World) (s_body_of : Sp) (s_things_of : Sp) (s_in_order : Sp) : TS :=
  (tSeq (tAsg (tCall s_body_of [] E0 (tCons (tVar 0) (tCons (tVar 1) tNil))) (gName 2))
  (tSeq (tAsg (tDNewKN) (gName 3))
  (tSeq (tFor (iEnumT K (tCons (tCall s_things_of [] E0 (tCons (tVar 0) (tCons (tVar 1) tNil))) tNil)) (gTup K 2 (gCons (gName 4) (gCons (gName 5) gNil))) (tAsg (tTupN (tCons (tC (.str "thing")) (tCons (tVar 4) tNil))) (gSub (tVar 3) (tVar 5) rSetG)))
  (tSeq (tAsg (tC (.int 0)) (gName 6))
  (tSeq (tFor (iSeq K (tCall s_in_order [] E0 (tCons (tVar 2) tNil))) (gName 7) (tIfS (tTest (tOp (rEqG K) (tIxG K w (tVar 7) (tC (.int 0))) (tC (.str "let")))) (tFor (iSeq K (tIxG K w (tVar 7) (tC (.int 1)))) (gTup K 2 (gCons (gName 5) (gCons (gName 8) gNil))) (tSeq (tAsg (tTupN (tCons (tC (.str "local")) (tCons (tVar 6) tNil))) (gSub (tVar 3) (tVar 5) rSetG))
  (tAsg (tOp (rAddG K) (tVar 6) (tC (.int 1))) (gName 6)))) tNext))
  (tRet (tTupN (tCons (tVar 2) (tCons (tVar 3) tNil)))))))))
def t_opening (K : PySem.W.Frag) (w : World) (s_building : Sp) : TS :=
  (tSeq (tAsg (tIxG K w (tIxG K w (tVar 1) (tIxG K w (tIxG K w (tIxG K w (tVar 0) (tC (.int 1))) (tC (.int 0))) (tC (.int 0)))) (tC (.int 1))) (gName 2))
  (tSeq (tAsg (tLstN (tCons (tTupN (tCons (tC (.str "room")) (tCons (tVar 2) (tCons (tCB (rLenG K) (tCons (tIxG K w (tVar 0) (tC (.int 1))) tNil)) tNil)))) tNil)) (gName 3))
  (tSeq (tFor (iSeq K (tIxG K w (tVar 0) (tC (.int 1)))) (gTup K 2 (gCons (gName 4) (gCons (gName 5) gNil))) (tSeq (tDrop (tBM K "list" rExtendG (tVar 3) (tCons (tCall s_building [] E0 (tCons (tVar 5) (tCons (tVar 1) tNil))) tNil)))
  (tDrop (tBM K "list" rAppendG (tVar 3) (tCons (tTupN (tCons (tC (.str "tie")) (tCons (tIxG K w (tIxG K w (tVar 1) (tVar 4)) (tC (.int 1))) tNil))) tNil)))))
  (tRet (tVar 3)))))
def t_building (K : PySem.W.Frag) (w : World) (s_opening : Sp) (s_building : Sp) (s_within : Sp) : TS :=
  (tSeq (tAsg (tIxG K w (tVar 0) (tC (.int 0))) (gName 2))
  (tSeq (tIfS (tTest (tOp (rEqG K) (tVar 2) (tC (.str "name")))) (tRet (tLstN (tCons (tIxG K w (tVar 1) (tIxG K w (tVar 0) (tC (.int 1)))) tNil))) tNext)
  (tSeq (tIfS (tTest (tOp (rInG K w false) (tVar 2) (tTupN (tCons (tC (.str "number")) (tCons (tC (.str "fun")) tNil))))) (tRet (tLstN (tCons (tVar 0) tNil))) tNext)
  (tSeq (tIfS (tTest (tOp (rEqG K) (tVar 2) (tC (.str "let")))) (tRet (tOp (rAddG K) (tCall s_opening [] E0 (tCons (tVar 0) (tCons (tVar 1) tNil))) (tCall s_building [] E0 (tCons (tIxG K w (tVar 0) (tC (.int 2))) (tCons (tVar 1) tNil))))) tNext)
  (tSeq (tAsg (tLstN tNil) (gName 3))
  (tSeq (tFor (iSeq K (tCall s_within [] E0 (tCons (tVar 0) tNil))) (gName 4) (tDrop (tBM K "list" rExtendG (tVar 3) (tCons (tCall s_building [] E0 (tCons (tVar 4) (tCons (tVar 1) tNil))) tNil))))
  (tRet (tOp (rAddG K) (tVar 3) (tLstN (tCons (tTupN (tCons (tVar 2) tNil)) tNil))))))))))
def t_is_alike (K : PySem.W.Frag) (w : World) (s_is_alike : Sp) : TS :=
  (tSeq (tIfS (tTru K (tCB (rIsiG K) (tCons (tVar 1) (tCons (tC (.ty "tuple")) tNil)))) (tSeq (tIfS (tOr (tNot (tTru K (tCB (rIsiG K) (tCons (tVar 0) (tCons (tC (.ty "tuple")) tNil))))) (tTest (tOp (rNeG K) (tCB (rLenG K) (tCons (tVar 0) tNil)) (tCB (rLenG K) (tCons (tVar 1) tNil))))) (tRet (tC (.bl false))) tNext)
  (tRet (tCB (rAll K) (tCons (tLc (iZipM K (tCons (tVar 0) (tCons (tVar 1) tNil))) (gTup K 2 (gCons (gName 2) (gCons (gName 3) gNil))) tYes (tCall s_is_alike [] E0 (tCons (tVar 2) (tCons (tVar 3) tNil))) [2, 3]) tNil)))) tNext)
  (tSeq (tIfS (tTru K (tCB (rIsiG K) (tCons (tVar 1) (tCons (tC (.ty "str")) tNil)))) (tRet (tAndT K (tCB (rIsiG K) (tCons (tVar 0) (tCons (tC (.ty "str")) tNil))) (tOp (rEqG K) (tVar 0) (tVar 1)))) tNext)
  (tRet (tAndT K (tCB (rIsiG K) (tCons (tVar 0) (tCons (tC (.ty "int")) tNil))) (tAndT K (tNotT K (tCB (rIsiG K) (tCons (tVar 0) (tCons (tC (.ty "bool")) tNil)))) (tOp (rEqG K) (tVar 0) (tVar 1)))))))
def t_behind_all (K : PySem.W.Frag) (w : World) (s_is_alike : Sp) : TS :=
  (tSeq (tAsg (tLstN tNil) (gName 3))
  (tSeq (tFor (iSeq K (tVar 1)) (gName 4) (tIfS (tTru K (tCall s_is_alike [] E0 (tCons (tCB (rTupleG K) (tCons (tSl (rSlG K) (tVar 0) (tPart (tVar 4)) (tPart (tOp (rAddG K) (tVar 4) (tCB (rLenG K) (tCons (tVar 2) tNil))))) tNil)) (tCons (tCB (rTupleG K) (tCons (tVar 2) tNil)) tNil)))) (tDrop (tBM K "list" rAppendG (tVar 3) (tCons (tOp (rAddG K) (tVar 4) (tCB (rLenG K) (tCons (tVar 2) tNil))) tNil))) tNext))
  (tRet (tVar 3))))
def t_doings_all (K : PySem.W.Frag) (w : World) (s_doings : Sp) : TS :=
  (tSeq (tAsg (tLstN tNil) (gName 5))
  (tSeq (tFor (iSeq K (tVar 1)) (gName 6) (tDrop (tBM K "list" rExtendG (tVar 5) (tCons (tCall s_doings [] E0 (tCons (tVar 0) (tCons (tVar 6) (tCons (tVar 2) (tCons (tVar 3) (tCons (tVar 4) tNil)))))) tNil))))
  (tRet (tVar 5))))
def t_sums_end (K : PySem.W.Frag) (w : World) (s_doings : Sp) (s_doings_all : Sp) (s_behind_all : Sp) : TS :=
  (tSeq (tAsg (tCall s_doings [] E0 (tCons (tVar 0) (tCons (tVar 1) (tCons (tIxG K w (tVar 2) (tC (.int 1))) (tCons (tC (.str "number")) (tCons (tVar 3) tNil)))))) (gName 4))
  (tSeq (tAsg (tCall s_doings_all [] E0 (tCons (tVar 0) (tCons (tVar 4) (tCons (tIxG K w (tVar 2) (tC (.int 2))) (tCons (tC (.str "number")) (tCons (tVar 3) tNil)))))) (gName 4))
  (tRet (tCall s_behind_all [] E0 (tCons (tVar 0) (tCons (tVar 4) (tCons (tLstN (tCons (tTupN (tCons (tC (.str "now")) (tCons (tIxG K w (tVar 2) (tC (.int 0))) tNil))) tNil)) tNil)))))))
def t_is_turn (K : PySem.W.Frag) (w : World) (s_is_alike : Sp) : TS :=
  (tSeq (tIfS (tOr (tNot (tTru K (tCB (rIsiG K) (tCons (tVar 0) (tCons (tC (.ty "tuple")) tNil))))) (tOr (tTest (tOp (rNeG K) (tCB (rLenG K) (tCons (tVar 0) tNil)) (tC (.int 3)))) (tNot (tTru K (tCall s_is_alike [] E0 (tCons (tIxG K w (tVar 0) (tC (.int 0))) (tCons (tC (.str "turn")) tNil))))))) (tRet (tC (.bl false))) tNext)
  (tRet (tAndT K (tCB (rIsiG K) (tCons (tIxG K w (tVar 0) (tC (.int 1))) (tCons (tC (.ty "tuple")) tNil))) (tCB (rIsiG K) (tCons (tIxG K w (tVar 0) (tC (.int 2))) (tCons (tC (.ty "tuple")) tNil))))))
def t_turns_end (K : PySem.W.Frag) (w : World) (s_doings : Sp) (s_is_turn : Sp) (s_is_one : Sp) : TS :=
  (tSeq (tAsg (tLstN tNil) (gName 5))
  (tSeq (tFor (iSeq K (tCall s_doings [] E0 (tCons (tVar 0) (tCons (tVar 1) (tCons (tIxG K w (tVar 2) (tC (.int 1))) (tCons (tC (.str "number")) (tCons (tVar 4) tNil))))))) (gName 6) (tIfS (tAnd (tTest (tOp rLtG (tVar 6) (tCB (rLenG K) (tCons (tVar 0) tNil)))) (tTru K (tCall s_is_turn [] E0 (tCons (tIxG K w (tVar 0) (tVar 6)) tNil)))) (tSeq (tAsg (tCall s_is_one [] E0 (tCons (tIxG K w (tIxG K w (tVar 0) (tVar 6)) (tC (.int 1))) (tCons (tIxG K w (tVar 2) (tC (.int 2))) (tCons (tVar 3) (tCons (tVar 4) tNil))))) (gName 7))
  (tIfS (tAnd (tTru K (tVar 7)) (tTru K (tCall s_is_one [] E0 (tCons (tIxG K w (tIxG K w (tVar 0) (tVar 6)) (tC (.int 2))) (tCons (tIxG K w (tVar 2) (tC (.int 3))) (tCons (tVar 3) (tCons (tVar 4) tNil))))))) (tDrop (tBM K "list" rAppendG (tVar 5) (tCons (tOp (rAddG K) (tVar 6) (tC (.int 1))) tNil))) tNext)) tNext))
  (tRet (tVar 5))))
def t_sides_end (K : PySem.W.Frag) (w : World) (s_doings : Sp) (s_behind_all : Sp) : TS :=
  (tSeq (tAsg (tCall s_doings [] E0 (tCons (tVar 0) (tCons (tVar 1) (tCons (tIxG K w (tVar 2) (tC (.int 1))) (tCons (tC (.str "pair")) (tCons (tVar 3) tNil)))))) (gName 4))
  (tRet (tCall s_behind_all [] E0 (tCons (tVar 0) (tCons (tVar 4) (tCons (tLstN (tCons (tTupN (tCons (tC (.str "side")) (tCons (tIxG K w (tVar 2) (tC (.int 0))) tNil))) tNil)) tNil))))))
def t_doings (K : PySem.W.Frag) (w : World) (s_behind_all : Sp) (s_building : Sp) (s_sums_end : Sp) (s_turns_end : Sp) (s_sides_end : Sp) (s_opening : Sp) (s_doings : Sp) : TS :=
  (tSeq (tAsg (tIxG K w (tVar 2) (tC (.int 0))) (gName 5))
  (tSeq (tAsg (tCall s_behind_all [] E0 (tCons (tVar 0) (tCons (tLstN (tCons (tVar 1) tNil)) (tCons (tOp (rAddG K) (tCall s_building [] E0 (tCons (tVar 2) (tCons (tVar 4) tNil))) (tLstN (tCons (tTupN (tCons (tC (.str "do")) (tCons (tVar 3) tNil))) tNil))) tNil)))) (gName 6))
  (tSeq (tIfS (tTest (tOp (rInG K w false) (tVar 5) (tC (.ref (He.ga K "OPERATIONS"))))) (tSeq (tAsg (tCall s_sums_end [] E0 (tCons (tVar 0) (tCons (tVar 1) (tCons (tVar 2) (tCons (tVar 4) tNil))))) (gName 7))
  (tSeq (tIfS (tTest (tOp (rEqG K) (tVar 3) (tC (.str "pair")))) (tAsg (tCall s_behind_all [] E0 (tCons (tVar 0) (tCons (tVar 7) (tCons (tLstN (tCons (tTupN (tCons (tC (.str "do")) (tCons (tVar 3) tNil))) tNil)) tNil)))) (gName 7)) tNext)
  (tDrop (tBM K "list" rExtendG (tVar 6) (tCons (tVar 7) tNil))))) (tIfS (tTest (tOp (rEqG K) (tVar 5) (tC (.str "when")))) (tDrop (tBM K "list" rExtendG (tVar 6) (tCons (tCall s_turns_end [] E0 (tCons (tVar 0) (tCons (tVar 1) (tCons (tVar 2) (tCons (tVar 3) (tCons (tVar 4) tNil)))))) tNil))) (tIfS (tTest (tOp (rInG K w false) (tVar 5) (tC (.ref (He.ga K "SIDES"))))) (tDrop (tBM K "list" rExtendG (tVar 6) (tCons (tCall s_behind_all [] E0 (tCons (tVar 0) (tCons (tCall s_sides_end [] E0 (tCons (tVar 0) (tCons (tVar 1) (tCons (tVar 2) (tCons (tVar 4) tNil))))) (tCons (tLstN (tCons (tTupN (tCons (tC (.str "do")) (tCons (tVar 3) tNil))) tNil)) tNil)))) tNil))) (tIfS (tTest (tOp (rEqG K) (tVar 5) (tC (.str "let")))) (tFor (iSeq K (tCall s_behind_all [] E0 (tCons (tVar 0) (tCons (tLstN (tCons (tVar 1) tNil)) (tCons (tCall s_opening [] E0 (tCons (tVar 2) (tCons (tVar 4) tNil))) tNil))))) (gName 8) (tDrop (tBM K "list" rExtendG (tVar 6) (tCons (tCall s_doings [] E0 (tCons (tVar 0) (tCons (tVar 8) (tCons (tIxG K w (tVar 2) (tC (.int 2))) (tCons (tVar 3) (tCons (tVar 4) tNil)))))) tNil)))) tNext))))
  (tRet (tCB (rSortSet w) (tCons (tCB (rSetLI K w) (tCons (tVar 6) tNil)) tNil))))))
def t_endings (K : PySem.W.Frag) (w : World) (s_behind_all : Sp) (s_building : Sp) (s_sums_end : Sp) (s_turns_end : Sp) (s_sides_end : Sp) (s_opening : Sp) (s_endings : Sp) : TS :=
  (tSeq (tAsg (tIxG K w (tVar 2) (tC (.int 0))) (gName 4))
  (tSeq (tAsg (tCall s_behind_all [] E0 (tCons (tVar 0) (tCons (tLstN (tCons (tVar 1) tNil)) (tCons (tCall s_building [] E0 (tCons (tVar 2) (tCons (tVar 3) tNil))) tNil)))) (gName 5))
  (tSeq (tIfS (tTest (tOp (rInG K w false) (tVar 4) (tC (.ref (He.ga K "OPERATIONS"))))) (tDrop (tBM K "list" rExtendG (tVar 5) (tCons (tCall s_sums_end [] E0 (tCons (tVar 0) (tCons (tVar 1) (tCons (tVar 2) (tCons (tVar 3) tNil))))) tNil))) (tIfS (tTest (tOp (rEqG K) (tVar 4) (tC (.str "when")))) (tDrop (tBM K "list" rExtendG (tVar 5) (tCons (tCall s_turns_end [] E0 (tCons (tVar 0) (tCons (tVar 1) (tCons (tVar 2) (tCons (tC (.str "")) (tCons (tVar 3) tNil)))))) tNil))) (tIfS (tTest (tOp (rInG K w false) (tVar 4) (tC (.ref (He.ga K "SIDES"))))) (tDrop (tBM K "list" rExtendG (tVar 5) (tCons (tCall s_sides_end [] E0 (tCons (tVar 0) (tCons (tVar 1) (tCons (tVar 2) (tCons (tVar 3) tNil))))) tNil))) (tIfS (tTest (tOp (rEqG K) (tVar 4) (tC (.str "let")))) (tFor (iSeq K (tCall s_behind_all [] E0 (tCons (tVar 0) (tCons (tLstN (tCons (tVar 1) tNil)) (tCons (tCall s_opening [] E0 (tCons (tVar 2) (tCons (tVar 3) tNil))) tNil))))) (gName 6) (tDrop (tBM K "list" rExtendG (tVar 5) (tCons (tCall s_endings [] E0 (tCons (tVar 0) (tCons (tVar 6) (tCons (tIxG K w (tVar 2) (tC (.int 2))) (tCons (tVar 3) tNil))))) tNil)))) tNext))))
  (tRet (tCB (rSortSet w) (tCons (tCB (rSetLI K w) (tCons (tVar 5) tNil)) tNil))))))
def t_is_one (K : PySem.W.Frag) (w : World) (s_endings : Sp) (s_doings : Sp) : TS :=
  (tSeq (tIfS (tTest (tOp (rEqG K) (tVar 2) (tC (.str "")))) (tRet (tOp (rInG K w false) (tCB (rLenG K) (tCons (tVar 0) tNil)) (tCall s_endings [] E0 (tCons (tVar 0) (tCons (tC (.int 0)) (tCons (tVar 1) (tCons (tVar 3) tNil))))))) tNext)
  (tRet (tOp (rInG K w false) (tCB (rLenG K) (tCons (tVar 0) tNil)) (tCall s_doings [] E0 (tCons (tVar 0) (tCons (tC (.int 0)) (tCons (tVar 1) (tCons (tVar 2) (tCons (tVar 3) tNil)))))))))
def t_lets_by (K : PySem.W.Frag) (w : World) (s_is_alike : Sp) (s_house_of : Sp) (s_is_one : Sp) : TS :=
  (tSeq (tIfS (tOr (tNot (tTru K (tCB (rIsiG K) (tCons (tVar 2) (tCons (tC (.ty "tuple")) tNil))))) (tOr (tTest (tOp (rEqT K) (tVar 2) (tTupN tNil))) (tNot (tTru K (tCall s_is_alike [] E0 (tCons (tIxG K w (tVar 2) (tUn (rU fun i => .int (-i)) (tC (.int 1)))) (tCons (tTupN (tCons (tC (.str "back")) tNil)) tNil))))))) (tRet (tC (.bl false))) tNext)
  (tSeq (tAsg (tCall s_house_of [] E0 (tCons (tVar 0) (tCons (tVar 1) tNil))) (gTup K 2 (gCons (gName 3) (gCons (gName 4) gNil))))
  (tRet (tCall s_is_one [] E0 (tCons (tSl (rSlG K) (tVar 2) tNoPart (tPart (tUn (rU fun i => .int (-i)) (tC (.int 1))))) (tCons (tVar 3) (tCons (tC (.str "")) (tCons (tVar 4) tNil))))))))
def t_law_pen (K : PySem.W.Frag) (w : World) : TS :=
  (tRet (tLstN (tCons (tCB (rListG K) (tCons (tSl (rSlG K) (tVar 0) tNoPart (tPart (tC (.int 63)))) tNil)) (tCons (tC (.int 0)) (tCons (tC (.int 0)) tNil)))))
def t_law_draw (K : PySem.W.Frag) (w : World) : TS :=
  (tSeq (tIfS (tTest (tOp rGtG (tIxG K w (tVar 0) (tC (.int 2))) (tC (.int 0)))) (tSeq (tAsg (tOp rModG (tIxG K w (tVar 0) (tC (.int 2))) (tVar 1)) (gName 2))
  (tSeq (tAsg (tOp rDivG (tIxG K w (tVar 0) (tC (.int 2))) (tVar 1)) (gSub (tVar 0) (tC (.int 2)) rSetG))
  (tRet (tVar 2)))) tNext)
  (tSeq (tAsg (tIxG K w (tVar 0) (tC (.int 1))) (gName 3))
  (tSeq (tAsg (tOp (rAddG K) (tVar 3) (tC (.int 1))) (gSub (tVar 0) (tC (.int 1)) rSetG))
  (tSeq (tAsg (tIxG K w (tOp (rAddG K) (tIxG K w (tVar 0) (tC (.int 0))) (tLstN (tCons (tC (.int 7)) tNil))) (tOp rModG (tVar 3) (tCB rMax2 (tCons (tC (.int 1)) (tCons (tCB (rLenG K) (tCons (tIxG K w (tVar 0) (tC (.int 0))) tNil)) tNil))))) (gName 4))
  (tSeq (tIfS (tAnd (tTest (tOp rLtG (tVar 3) (tCB (rLenG K) (tCons (tIxG K w (tVar 0) (tC (.int 0))) tNil)))) (tTest (tOp rGeG (tCB rAbsG (tCons (tVar 4) tNil)) (tOp rPowG (tC (.int 10)) (tC (.int 18)))))) (tSeq (tAsg (tOp rDivG (tCB rAbsG (tCons (tVar 4) tNil)) (tVar 1)) (gSub (tVar 0) (tC (.int 2)) rSetG))
  (tRet (tOp rModG (tCB rAbsG (tCons (tVar 4) tNil)) (tVar 1)))) tNext)
  (tSeq (tAsg (tIxG K w (tLstN (tCons (tC (.int 2147483647)) (tCons (tC (.int 2147483629)) (tCons (tC (.int 2147483587)) (tCons (tC (.int 2147483579)) (tCons (tC (.int 2147483563)) (tCons (tC (.int 2147483549)) (tCons (tC (.int 2147483543)) tNil)))))))) (tOp rModG (tVar 3) (tC (.int 7)))) (gName 5))
  (tSeq (tAsg (tOp rModG (tOp rMulG (tOp (rAddG K) (tOp (rAddG K) (tOp rModG (tVar 4) (tC (.int 2147483497))) (tOp rMulG (tC (.int 69621)) (tVar 3))) (tC (.int 13))) (tC (.int 48271))) (tVar 5)) (gName 6))
  (tSeq (tAsg (tOp rModG (tOp (rAddG K) (tOp (rAddG K) (tOp rMulG (tVar 6) (tVar 6)) (tOp rMulG (tC (.int 40692)) (tVar 6))) (tVar 3)) (tC (.int 2147483489))) (gName 6))
  (tSeq (tAsg (tOp rModG (tOp rMulG (tVar 6) (tC (.int 16807))) (tC (.int 2147483477))) (gName 6))
  (tSeq (tIfS (tTest (tOp rGtG (tVar 1) (tOp rPowG (tC (.int 10)) (tC (.int 7))))) (tAsg (tOp rPowG (tVar 6) (tC (.int 8))) (gName 6)) tNext)
  (tRet (tOp rModG (tOp rDivG (tVar 6) (tC (.int 32))) (tVar 1)))))))))))))
def t_law_names (K : PySem.W.Frag) (w : World) (s_law_draw : Sp) : TS :=
  (tSeq (tAsg (tC (.str "abcdefghijklmnopqrstuvwxyz")) (gName 2))
  (tSeq (tAsg (tM1 (rJoinG K) (tC (.str "")) (tLc (iRng1 (tCons (tOp (rAddG K) (tC (.int 1)) (tCall s_law_draw [] E0 (tCons (tVar 0) (tCons (tC (.int 8)) tNil)))) tNil)) (gName 4) tYes (tIxG K w (tVar 2) (tCall s_law_draw [] E0 (tCons (tVar 0) (tCons (tC (.int 26)) tNil)))) [4])) (gName 3))
  (tSeq (tAsg (tCall s_law_draw [] E0 (tCons (tVar 0) (tCons (tCB (rLenG K) (tCons (tVar 3) tNil)) tNil))) (gName 5))
  (tSeq (tAsg (tCall s_law_draw [] E0 (tCons (tVar 0) (tCons (tC (.int 26)) tNil))) (gName 6))
  (tSeq (tAsg (tIxG K w (tLstN (tCons (tC (.int 1)) (tCons (tC (.int 3)) (tCons (tC (.int 5)) (tCons (tC (.int 7)) (tCons (tC (.int 9)) (tCons (tC (.int 11)) tNil))))))) (tCall s_law_draw [] E0 (tCons (tVar 0) (tCons (tC (.int 6)) tNil)))) (gName 7))
  (tRet (tLc (iRng1 (tCons (tVar 1) tNil)) (gName 4) tYes (tOp (rAddG K) (tOp (rAddG K) (tSl (rSlG K) (tVar 3) tNoPart (tPart (tVar 5))) (tIxG K w (tVar 2) (tOp rModG (tOp (rAddG K) (tVar 6) (tOp rMulG (tVar 7) (tVar 4))) (tC (.int 26))))) (tSl (rSlG K) (tVar 3) (tPart (tOp (rAddG K) (tVar 5) (tC (.int 1)))) tNoPart)) [4])))))))
def t_law_number (K : PySem.W.Frag) (w : World) (s_law_draw : Sp) : TS :=
  (tSeq (tAsg (tCall s_law_draw [] E0 (tCons (tVar 0) (tCons (tC (.int 9)) tNil))) (gName 1))
  (tSeq (tIfS (tTest (tOp (rEqG K) (tVar 1) (tC (.int 8)))) (tRet (tOp (rAddG K) (tOp rSubG (tCall s_law_draw [] E0 (tCons (tVar 0) (tCons (tOp rSubG (tOp rMulG (tC (.int 2)) (tOp rPowG (tC (.int 10)) (tC (.int 60)))) (tC (.int 1))) tNil))) (tOp rPowG (tC (.int 10)) (tC (.int 60)))) (tC (.int 1)))) tNext)
  (tSeq (tIfS (tTest (tOp (rEqG K) (tVar 1) (tC (.int 7)))) (tRet (tOp rSubG (tCall s_law_draw [] E0 (tCons (tVar 0) (tCons (tOp rMulG (tC (.int 2)) (tOp rPowG (tC (.int 10)) (tC (.int 31)))) tNil))) (tOp rPowG (tC (.int 10)) (tC (.int 31))))) tNext)
  (tRet (tOp rSubG (tCall s_law_draw [] E0 (tCons (tVar 0) (tCons (tC (.int 9)) tNil))) (tIxG K w (tLstN (tCons (tC (.int 0)) (tCons (tC (.int 0)) (tCons (tC (.int 0)) (tCons (tC (.int 1)) (tCons (tC (.int 2)) (tCons (tC (.int 4)) (tCons (tC (.int 0)) tNil)))))))) (tVar 1)))))))
def t_law_leaf (K : PySem.W.Frag) (w : World) (s_law_draw : Sp) (s_law_number : Sp) : TS :=
  (tSeq (tAsg (tCall s_law_draw [] E0 (tCons (tVar 0) (tCons (tC (.int 8)) tNil))) (gName 4))
  (tSeq (tIfS (tAnd (tTest (tOp (rNeG K) (tVar 2) (tLstN tNil))) (tTest (tOp rGtG (tVar 4) (tC (.int 2))))) (tRet (tTupN (tCons (tC (.str "name")) (tCons (tIxG K w (tVar 2) (tCall s_law_draw [] E0 (tCons (tVar 0) (tCons (tCB (rLenG K) (tCons (tVar 2) tNil)) tNil)))) tNil)))) tNext)
  (tSeq (tIfS (tAnd (tTest (tOp (rNeG K) (tVar 1) (tLstN tNil))) (tAnd (tTest (tOp (rEqG K) (tVar 3) (tC (.str "any")))) (tTest (tOp (rEqG K) (tVar 4) (tC (.int 0)))))) (tRet (tTupN (tCons (tC (.str "fun")) (tCons (tIxG K w (tIxG K w (tVar 1) (tCall s_law_draw [] E0 (tCons (tVar 0) (tCons (tCB (rLenG K) (tCons (tVar 1) tNil)) tNil)))) (tC (.int 0))) tNil)))) tNext)
  (tRet (tTupN (tCons (tC (.str "number")) (tCons (tCall s_law_number [] E0 (tCons (tVar 0) tNil)) tNil)))))))
def t_law_fits (K : PySem.W.Frag) (w : World) : TS :=
  (tSeq (tIfS (tTest (tOp rLtG (tIxG K w (tIxG K w (tVar 0) (tC (.int 1))) (tC (.int 0))) (tVar 1))) (tRet (tC (.bl false))) tNext)
  (tSeq (tAsg (tOp rSubG (tIxG K w (tIxG K w (tVar 0) (tC (.int 1))) (tC (.int 0))) (tVar 1)) (gSub (tIxG K w (tVar 0) (tC (.int 1))) (tC (.int 0)) rSetG))
  (tRet (tC (.bl true)))))
def t_law_call (K : PySem.W.Frag) (w : World) (s_law_draw : Sp) (s_law_fits : Sp) (s_law_leaf : Sp) (s_law_part : Sp) : TS :=
  (tSeq (tAsg (tIxG K w (tVar 1) (tCall s_law_draw [] E0 (tCons (tVar 0) (tCons (tCB (rLenG K) (tCons (tVar 1) tNil)) tNil)))) (gTup K 2 (gCons (gName 5) (gCons (gName 6) gNil))))
  (tSeq (tAsg (tCB rMax2 (tCons (tC (.int 0)) (tCons (tOp (rAddG K) (tVar 6) (tIxG K w (tLstN (tCons (tC (.int 0)) (tCons (tC (.int 0)) (tCons (tC (.int 0)) (tCons (tC (.int 0)) (tCons (tC (.int 0)) (tCons (tC (.int 0)) (tCons (tC (.int 1)) (tCons (tUn (rU fun i => .int (-i)) (tC (.int 1))) tNil))))))))) (tCall s_law_draw [] E0 (tCons (tVar 0) (tCons (tC (.int 8)) tNil))))) tNil))) (gName 7))
  (tSeq (tIfS (tNot (tTru K (tCall s_law_fits [] E0 (tCons (tVar 3) (tCons (tOp rMulG (tC (.int 2)) (tVar 7)) tNil))))) (tRet (tCall s_law_leaf [] E0 (tCons (tVar 0) (tCons (tVar 1) (tCons (tVar 2) (tCons (tVar 4) tNil)))))) tNext)
  (tSeq (tAsg (tTupN (tCons (tC (.str "fun")) (tCons (tVar 5) tNil))) (gName 8))
  (tSeq (tAsg (tLstN (tCons (tOp rSubG (tIxG K w (tVar 3) (tC (.int 0))) (tVar 7)) (tCons (tIxG K w (tVar 3) (tC (.int 1))) (tCons (tIxG K w (tVar 3) (tC (.int 2))) tNil)))) (gName 9))
  (tSeq (tFor (iRng1 (tCons (tVar 7) tNil)) (gName 10) (tAsg (tTupN (tCons (tC (.str "give")) (tCons (tVar 8) (tCons (tCall s_law_part [] E0 (tCons (tVar 0) (tCons (tVar 1) (tCons (tVar 2) (tCons (tVar 9) (tCons (tIxG K w (tLstN (tCons (tC (.str "number")) (tCons (tC (.str "any")) tNil))) (tOp rDivG (tCall s_law_draw [] E0 (tCons (tVar 0) (tCons (tC (.int 3)) tNil))) (tC (.int 2)))) tNil)))))) tNil)))) (gName 8)))
  (tRet (tVar 8))))))))
def t_law_let (K : PySem.W.Frag) (w : World) (s_law_draw : Sp) (s_law_fits : Sp) (s_law_leaf : Sp) (s_law_part : Sp) : TS :=
  (tSeq (tAsg (tIxG K w (tLstN (tCons (tC (.int 1)) (tCons (tC (.int 1)) (tCons (tC (.int 2)) (tCons (tC (.int 1)) (tCons (tC (.int 2)) (tCons (tC (.int 3)) (tCons (tC (.int 4)) tNil)))))))) (tCall s_law_draw [] E0 (tCons (tVar 0) (tCons (tC (.int 7)) tNil)))) (gName 5))
  (tSeq (tIfS (tOr (tTest (tOp rLtG (tCB (rLenG K) (tCons (tIxG K w (tVar 3) (tC (.int 2))) tNil)) (tVar 5))) (tNot (tTru K (tCall s_law_fits [] E0 (tCons (tVar 3) (tCons (tOp (rAddG K) (tVar 5) (tC (.int 1))) tNil)))))) (tRet (tCall s_law_leaf [] E0 (tCons (tVar 0) (tCons (tVar 1) (tCons (tVar 2) (tCons (tVar 4) tNil)))))) tNext)
  (tSeq (tAsg (tLc (iRng1 (tCons (tVar 5) tNil)) (gName 7) tYes (tBM0 K "list" rPopG (tIxG K w (tVar 3) (tC (.int 2)))) [7]) (gName 6))
  (tSeq (tAsg (tLstN tNil) (gName 8))
  (tSeq (tFor (iSeq K (tVar 6)) (gName 9) (tSeq (tAsg (tIxG K w (tLstN (tCons (tC (.str "number")) (tCons (tC (.str "pair")) (tCons (tC (.str "any")) tNil)))) (tCall s_law_draw [] E0 (tCons (tVar 0) (tCons (tC (.int 3)) tNil)))) (gName 10))
  (tDrop (tBM K "list" rAppendG (tVar 8) (tCons (tTupN (tCons (tVar 9) (tCons (tCall s_law_part [] E0 (tCons (tVar 0) (tCons (tVar 1) (tCons (tOp (rAddG K) (tVar 2) (tVar 6)) (tCons (tVar 3) (tCons (tVar 10) tNil)))))) tNil))) tNil)))))
  (tRet (tTupN (tCons (tC (.str "let")) (tCons (tCB (rTupleG K) (tCons (tVar 8) tNil)) (tCons (tCall s_law_part [] E0 (tCons (tVar 0) (tCons (tVar 1) (tCons (tOp (rAddG K) (tVar 2) (tVar 6)) (tCons (tVar 3) (tCons (tVar 4) tNil)))))) tNil))))))))))
def t_law_part (K : PySem.W.Frag) (w : World) (s_law_draw : Sp) (s_law_leaf : Sp) (s_law_call : Sp) (s_law_let : Sp) (s_law_fits : Sp) (s_law_part : Sp) : TS :=
  (tSeq (tAsg (tDispN (((tC (.str "number")), (tC (.str "op op op op op op when when side let call call call call leaf leaf"))) :: [])) (gName 5))
  (tSeq (tAsg (tC (.str "pair pair pair pair when when side side let let call call call op leaf pair")) (gSub (tVar 5) (tC (.str "pair")) rSetG))
  (tSeq (tAsg (tC (.str "op op pair pair pair when when side side let let call call call leaf leaf")) (gSub (tVar 5) (tC (.str "any")) rSetG))
  (tSeq (tAsg (tIxG K w (tM1 rSplitG (tIxG K w (tVar 5) (tVar 4)) (tC (.str " "))) (tCall s_law_draw [] E0 (tCons (tVar 0) (tCons (tC (.int 16)) tNil)))) (gName 6))
  (tSeq (tAsg (tLstN (tCons (tOp rSubG (tIxG K w (tVar 3) (tC (.int 0))) (tC (.int 1))) (tCons (tIxG K w (tVar 3) (tC (.int 1))) (tCons (tIxG K w (tVar 3) (tC (.int 2))) tNil)))) (gName 7))
  (tSeq (tIfS (tOr (tTest (tOp rLtG (tIxG K w (tVar 3) (tC (.int 0))) (tC (.int 1)))) (tOr (tTest (tOp (rEqG K) (tVar 6) (tC (.str "leaf")))) (tAnd (tTest (tOp (rEqG K) (tVar 6) (tC (.str "call")))) (tOr (tTest (tOp (rEqG K) (tVar 1) (tLstN tNil))) (tTest (tOp rLtG (tIxG K w (tVar 3) (tC (.int 0))) (tC (.int 6)))))))) (tRet (tCall s_law_leaf [] E0 (tCons (tVar 0) (tCons (tVar 1) (tCons (tVar 2) (tCons (tVar 4) tNil)))))) tNext)
  (tSeq (tIfS (tTest (tOp (rEqG K) (tVar 6) (tC (.str "call")))) (tRet (tCall s_law_call [] E0 (tCons (tVar 0) (tCons (tVar 1) (tCons (tVar 2) (tCons (tVar 7) (tCons (tVar 4) tNil))))))) tNext)
  (tSeq (tIfS (tTest (tOp (rEqG K) (tVar 6) (tC (.str "let")))) (tRet (tCall s_law_let [] E0 (tCons (tVar 0) (tCons (tVar 1) (tCons (tVar 2) (tCons (tVar 7) (tCons (tVar 4) tNil))))))) tNext)
  (tSeq (tIfS (tNot (tTru K (tCall s_law_fits [] E0 (tCons (tVar 3) (tCons (tIxG K w (tDispN (((tC (.str "side")), (tC (.int 1))) :: (((tC (.str "pair")), (tC (.int 2))) :: (((tC (.str "when")), (tC (.int 3))) :: (((tC (.str "op")), (tC (.int 2))) :: []))))) (tVar 6)) tNil))))) (tRet (tCall s_law_leaf [] E0 (tCons (tVar 0) (tCons (tVar 1) (tCons (tVar 2) (tCons (tVar 4) tNil)))))) tNext)
  (tSeq (tIfS (tTest (tOp (rEqG K) (tVar 6) (tC (.str "side")))) (tRet (tTupN (tCons (tIxG K w (tLstN (tCons (tC (.str "left")) (tCons (tC (.str "right")) tNil))) (tCall s_law_draw [] E0 (tCons (tVar 0) (tCons (tC (.int 2)) tNil)))) (tCons (tCall s_law_part [] E0 (tCons (tVar 0) (tCons (tVar 1) (tCons (tVar 2) (tCons (tVar 7) (tCons (tC (.str "pair")) tNil)))))) tNil)))) tNext)
  (tSeq (tAsg (tCall s_law_part [] E0 (tCons (tVar 0) (tCons (tVar 1) (tCons (tVar 2) (tCons (tVar 7) (tCons (tIxG K w (tLstN (tCons (tC (.str "number")) (tCons (tC (.str "any")) tNil))) (tCB rIntG (tCons (tOp (rEqG K) (tVar 6) (tC (.str "pair"))) tNil))) tNil)))))) (gName 8))
  (tSeq (tAsg (tCall s_law_part [] E0 (tCons (tVar 0) (tCons (tVar 1) (tCons (tVar 2) (tCons (tVar 7) (tCons (tIxG K w (tDispN (((tC (.str "pair")), (tC (.str "any"))) :: (((tC (.str "when")), (tVar 4)) :: (((tC (.str "op")), (tC (.str "number"))) :: [])))) (tVar 6)) tNil)))))) (gName 9))
  (tSeq (tIfS (tTest (tOp (rEqG K) (tVar 6) (tC (.str "pair")))) (tRet (tTupN (tCons (tC (.str "pair")) (tCons (tVar 8) (tCons (tVar 9) tNil))))) tNext)
  (tSeq (tIfS (tTest (tOp (rEqG K) (tVar 6) (tC (.str "when")))) (tRet (tTupN (tCons (tC (.str "when")) (tCons (tVar 8) (tCons (tVar 9) (tCons (tCall s_law_part [] E0 (tCons (tVar 0) (tCons (tVar 1) (tCons (tVar 2) (tCons (tVar 7) (tCons (tVar 4) tNil)))))) tNil)))))) tNext)
  (tRet (tTupN (tCons (tIxG K w (tLstN (tCons (tC (.str "plus")) (tCons (tC (.str "less")) (tCons (tC (.str "times")) (tCons (tC (.str "below")) tNil))))) (tCall s_law_draw [] E0 (tCons (tVar 0) (tCons (tC (.int 4)) tNil)))) (tCons (tVar 8) (tCons (tVar 9) tNil)))))))))))))))))))
def t_law_loop (K : PySem.W.Frag) (w : World) (s_law_part : Sp) (s_law_draw : Sp) : TS :=
  (tSeq (tAsg (tTupN (tCons (tC (.str "give")) (tCons (tTupN (tCons (tC (.str "fun")) (tCons (tVar 2) tNil))) (tCons (tTupN (tCons (tC (.str "less")) (tCons (tTupN (tCons (tC (.str "name")) (tCons (tIxG K w (tVar 3) (tC (.int 0))) tNil))) (tCons (tTupN (tCons (tC (.str "number")) (tCons (tC (.int 1)) tNil))) tNil)))) tNil)))) (gName 5))
  (tSeq (tFor (iSeq K (tSl (rSlG K) (tVar 3) (tPart (tC (.int 1))) tNoPart)) (gName 6) (tSeq (tAsg (tCall s_law_part [] E0 (tCons (tVar 0) (tCons (tVar 1) (tCons (tVar 3) (tCons (tLstN (tCons (tC (.int 2)) (tCons (tIxG K w (tVar 4) (tC (.int 1))) (tCons (tIxG K w (tVar 4) (tC (.int 2))) tNil)))) (tCons (tC (.str "any")) tNil)))))) (gName 7))
  (tAsg (tTupN (tCons (tC (.str "give")) (tCons (tVar 5) (tCons (tIxG K w (tLstN (tCons (tTupN (tCons (tC (.str "name")) (tCons (tVar 6) tNil))) (tCons (tVar 7) tNil))) (tCall s_law_draw [] E0 (tCons (tVar 0) (tCons (tC (.int 2)) tNil)))) tNil)))) (gName 5))))
  (tSeq (tAsg (tCall s_law_part [] E0 (tCons (tVar 0) (tCons (tVar 1) (tCons (tVar 3) (tCons (tLstN (tCons (tC (.int 3)) (tCons (tIxG K w (tVar 4) (tC (.int 1))) (tCons (tIxG K w (tVar 4) (tC (.int 2))) tNil)))) (tCons (tC (.str "number")) tNil)))))) (gName 8))
  (tSeq (tAsg (tIxG K w (tLstN (tCons (tVar 5) (tCons (tTupN (tCons (tC (.str "plus")) (tCons (tVar 8) (tCons (tVar 5) tNil)))) (tCons (tTupN (tCons (tC (.str "pair")) (tCons (tVar 8) (tCons (tVar 5) tNil)))) (tCons (tTupN (tCons (tC (.str "plus")) (tCons (tVar 5) (tCons (tVar 8) tNil)))) tNil))))) (tCall s_law_draw [] E0 (tCons (tVar 0) (tCons (tC (.int 4)) tNil)))) (gName 9))
  (tRet (tTupN (tCons (tC (.str "when")) (tCons (tTupN (tCons (tC (.str "name")) (tCons (tIxG K w (tVar 3) (tC (.int 0))) tNil))) (tCons (tVar 9) (tCons (tCall s_law_part [] E0 (tCons (tVar 0) (tCons (tVar 1) (tCons (tVar 3) (tCons (tLstN (tCons (tC (.int 3)) (tCons (tIxG K w (tVar 4) (tC (.int 1))) (tCons (tIxG K w (tVar 4) (tC (.int 2))) tNil)))) (tCons (tC (.str "number")) tNil)))))) tNil))))))))))
def t_law_body (K : PySem.W.Frag) (w : World) (s_law_draw : Sp) (s_law_loop : Sp) (s_law_part : Sp) : TS :=
  (tSeq (tAsg (tIxG K w (tLstN (tCons (tC (.int 2)) (tCons (tC (.int 7)) (tCons (tC (.int 9)) (tCons (tC (.int 11)) tNil))))) (tCall s_law_draw [] E0 (tCons (tVar 0) (tCons (tC (.int 4)) tNil)))) (gName 5))
  (tSeq (tAsg (tIxG K w (tLstN (tCons (tC (.int 2)) (tCons (tC (.int 7)) (tCons (tC (.int 14)) (tCons (tC (.int 24)) (tCons (tC (.int 40)) (tCons (tC (.int 59)) tNil))))))) (tCall s_law_draw [] E0 (tCons (tVar 0) (tCons (tC (.int 6)) tNil)))) (gName 6))
  (tSeq (tIfS (tAnd (tTest (tOp (rNeG K) (tVar 2) (tC (.str "")))) (tAnd (tTest (tOp (rNeG K) (tVar 3) (tLstN tNil))) (tTest (tOp (rEqG K) (tCall s_law_draw [] E0 (tCons (tVar 0) (tCons (tC (.int 3)) tNil))) (tC (.int 0)))))) (tRet (tCall s_law_loop [] E0 (tCons (tVar 0) (tCons (tVar 1) (tCons (tVar 2) (tCons (tVar 3) (tCons (tLstN (tCons (tVar 5) (tCons (tLstN (tCons (tCB rMin2 (tCons (tVar 6) (tCons (tC (.int 40)) tNil))) tNil)) (tCons (tVar 4) tNil)))) tNil))))))) tNext)
  (tSeq (tIfS (tAnd (tTest (tOp (rEqG K) (tVar 2) (tC (.str "")))) (tAnd (tTest (tOp (rNeG K) (tVar 1) (tLstN tNil))) (tTest (tOp (rEqG K) (tCall s_law_draw [] E0 (tCons (tVar 0) (tCons (tC (.int 2)) tNil))) (tC (.int 0)))))) (tSeq (tAsg (tTupN (tCons (tC (.str "fun")) (tCons (tIxG K w (tIxG K w (tVar 1) (tC (.int 0))) (tC (.int 0))) tNil))) (gName 7))
  (tSeq (tFor (iRng1 (tCons (tIxG K w (tIxG K w (tVar 1) (tC (.int 0))) (tC (.int 1))) tNil)) (gName 8) (tAsg (tTupN (tCons (tC (.str "give")) (tCons (tVar 7) (tCons (tTupN (tCons (tC (.str "number")) (tCons (tCall s_law_draw [] E0 (tCons (tVar 0) (tCons (tC (.int 8)) tNil))) tNil))) tNil)))) (gName 7)))
  (tRet (tVar 7)))) tNext)
  (tRet (tCall s_law_part [] E0 (tCons (tVar 0) (tCons (tVar 1) (tCons (tVar 3) (tCons (tLstN (tCons (tVar 5) (tCons (tLstN (tCons (tVar 6) tNil)) (tCons (tVar 4) tNil)))) (tCons (tC (.str "any")) tNil)))))))))))
def t_law_program (K : PySem.W.Frag) (w : World) (s_law_names : Sp) (s_law_draw : Sp) (s_law_body : Sp) : TS :=
  (tSeq (tAsg (tCall s_law_names [] E0 (tCons (tVar 0) (tCons (tIxG K w (tLstN (tCons (tC (.int 0)) (tCons (tC (.int 1)) (tCons (tC (.int 2)) (tCons (tC (.int 3)) (tCons (tC (.int 4)) (tCons (tC (.int 2)) (tCons (tC (.int 3)) (tCons (tC (.int 8)) tNil))))))))) (tCall s_law_draw [] E0 (tCons (tVar 0) (tCons (tC (.int 8)) tNil)))) tNil))) (gName 1))
  (tSeq (tAsg (tLc (iSeq K (tVar 1)) (gName 3) tYes (tTupN (tCons (tVar 3) (tCons (tIxG K w (tLstN (tCons (tC (.int 1)) (tCons (tC (.int 0)) (tCons (tC (.int 1)) (tCons (tC (.int 2)) (tCons (tC (.int 2)) (tCons (tC (.int 3)) (tCons (tC (.int 4)) tNil)))))))) (tCall s_law_draw [] E0 (tCons (tVar 0) (tCons (tC (.int 7)) tNil)))) tNil))) [3]) (gName 2))
  (tSeq (tAsg (tLstN tNil) (gName 4))
  (tSeq (tFor (iSeq K (tVar 2)) (gTup K 2 (gCons (gName 3) (gCons (gName 5) gNil))) (tSeq (tAsg (tCall s_law_names [] E0 (tCons (tVar 0) (tCons (tC (.int 26)) tNil))) (gName 6))
  (tSeq (tAsg (tSl (rSlG K) (tVar 6) tNoPart (tPart (tVar 5))) (gName 7))
  (tDrop (tBM K "list" rAppendG (tVar 4) (tCons (tTupN (tCons (tVar 3) (tCons (tCB (rTupleG K) (tCons (tVar 7) tNil)) (tCons (tCall s_law_body [] E0 (tCons (tVar 0) (tCons (tVar 2) (tCons (tVar 3) (tCons (tVar 7) (tCons (tSl (rSlG K) (tVar 6) (tPart (tVar 5)) tNoPart) tNil)))))) tNil)))) tNil))))))
  (tRet (tTupN (tCons (tCB (rTupleG K) (tCons (tVar 4) tNil)) (tCons (tCall s_law_body [] E0 (tCons (tVar 0) (tCons (tVar 2) (tCons (tC (.str "")) (tCons (tLstN tNil) (tCons (tCall s_law_names [] E0 (tCons (tVar 0) (tCons (tC (.int 26)) tNil))) tNil)))))) tNil))))))))
def t_law_all_within (K : PySem.W.Frag) (w : World) : TS :=
  (tSeq (tIfS (tTest (tOp (rEqG K) (tIxG K w (tVar 0) (tC (.int 0))) (tC (.str "let")))) (tRet (tOp (rAddG K) (tLc (iSeq K (tIxG K w (tVar 0) (tC (.int 1)))) (gTup K 2 (gCons (gName 1) (gCons (gName 2) gNil))) tYes (tVar 2) [1, 2]) (tLstN (tCons (tIxG K w (tVar 0) (tC (.int 2))) tNil)))) tNext)
  (tSeq (tIfS (tTest (tOp (rInG K w false) (tIxG K w (tVar 0) (tC (.int 0))) (tTupN (tCons (tC (.str "number")) (tCons (tC (.str "name")) (tCons (tC (.str "fun")) tNil)))))) (tRet (tLstN tNil)) tNext)
  (tRet (tCB (rListG K) (tCons (tSl (rSlG K) (tVar 0) (tPart (tC (.int 1))) tNoPart) tNil)))))
def t_law_body_of (K : PySem.W.Frag) (w : World) : TS :=
  (tSeq (tFor (iSeq K (tIxG K w (tVar 0) (tC (.int 0)))) (gTup K 3 (gCons (gName 2) (gCons (gName 3) (gCons (gName 4) gNil)))) (tIfS (tTest (tOp (rEqG K) (tVar 2) (tVar 1))) (tRet (tTupN (tCons (tVar 3) (tCons (tVar 4) tNil)))) tNext))
  (tRet (tTupN (tCons (tTupN tNil) (tCons (tIxG K w (tVar 0) (tC (.int 1))) tNil)))))
def t_law_ways (K : PySem.W.Frag) (w : World) (s_law_body_of : Sp) (s_law_all_within : Sp) : TS :=
  (tSeq (tAsg (tCall s_law_body_of [] E0 (tCons (tVar 0) (tCons (tVar 1) tNil))) (gTup K 2 (gCons (gName 2) (gCons (gName 3) gNil))))
  (tSeq (tAsg (tDNewKN) (gName 4))
  (tSeq (tFor (iRng1 (tCons (tCB (rLenG K) (tCons (tVar 2) tNil)) tNil)) (gName 5) (tAsg (tTupN (tCons (tC (.str "thing")) (tCons (tVar 5) tNil))) (gSub (tVar 4) (tIxG K w (tVar 2) (tVar 5)) rSetG)))
  (tSeq (tAsg (tC (.int 0)) (gName 6))
  (tSeq (tAsg (tLstN (tCons (tVar 3) tNil)) (gName 7))
  (tSeq (tWhile (tTest (tOp (rNeG K) (tVar 7) (tLstN tNil))) (tSeq (tAsg (tBM K "list" rPopA (tVar 7) (tCons (tC (.int 0)) tNil)) (gName 8))
  (tSeq (tIfS (tTest (tOp (rEqG K) (tIxG K w (tVar 8) (tC (.int 0))) (tC (.str "let")))) (tFor (iSeq K (tIxG K w (tVar 8) (tC (.int 1)))) (gTup K 2 (gCons (gName 9) (gCons (gName 10) gNil))) (tSeq (tAsg (tTupN (tCons (tC (.str "local")) (tCons (tVar 6) tNil))) (gSub (tVar 4) (tVar 9) rSetG))
  (tAsg (tOp (rAddG K) (tVar 6) (tC (.int 1))) (gName 6)))) tNext)
  (tAsg (tOp (rAddG K) (tCall s_law_all_within [] E0 (tCons (tVar 8) tNil)) (tVar 7)) (gName 7)))))
  (tRet (tVar 4))))))))
def t_law_opened (K : PySem.W.Frag) (w : World) (s_law_built : Sp) : TS :=
  (tSeq (tAsg (tLstN (tCons (tTupN (tCons (tC (.str "room")) (tCons (tIxG K w (tIxG K w (tVar 1) (tIxG K w (tIxG K w (tIxG K w (tVar 0) (tC (.int 1))) (tC (.int 0))) (tC (.int 0)))) (tC (.int 1))) (tCons (tCB (rLenG K) (tCons (tIxG K w (tVar 0) (tC (.int 1))) tNil)) tNil)))) tNil)) (gName 2))
  (tSeq (tFor (iSeq K (tIxG K w (tVar 0) (tC (.int 1)))) (gTup K 2 (gCons (gName 3) (gCons (gName 4) gNil))) (tAsg (tOp (rAddG K) (tOp (rAddG K) (tVar 2) (tCall s_law_built [] E0 (tCons (tVar 4) (tCons (tVar 1) tNil)))) (tLstN (tCons (tTupN (tCons (tC (.str "tie")) (tCons (tIxG K w (tIxG K w (tVar 1) (tVar 3)) (tC (.int 1))) tNil))) tNil))) (gName 2)))
  (tRet (tVar 2))))
def t_law_built (K : PySem.W.Frag) (w : World) (s_law_opened : Sp) (s_law_built : Sp) : TS :=
  (tSeq (tIfS (tTest (tOp (rEqG K) (tIxG K w (tVar 0) (tC (.int 0))) (tC (.str "name")))) (tRet (tLstN (tCons (tIxG K w (tVar 1) (tIxG K w (tVar 0) (tC (.int 1)))) tNil))) tNext)
  (tSeq (tIfS (tTest (tOp (rInG K w false) (tIxG K w (tVar 0) (tC (.int 0))) (tTupN (tCons (tC (.str "number")) (tCons (tC (.str "fun")) tNil))))) (tRet (tLstN (tCons (tVar 0) tNil))) tNext)
  (tSeq (tIfS (tTest (tOp (rEqG K) (tIxG K w (tVar 0) (tC (.int 0))) (tC (.str "let")))) (tRet (tOp (rAddG K) (tCall s_law_opened [] E0 (tCons (tVar 0) (tCons (tVar 1) tNil))) (tCall s_law_built [] E0 (tCons (tIxG K w (tVar 0) (tC (.int 2))) (tCons (tVar 1) tNil))))) tNext)
  (tSeq (tAsg (tLstN tNil) (gName 2))
  (tSeq (tFor (iSeq K (tSl (rSlG K) (tVar 0) (tPart (tC (.int 1))) tNoPart)) (gName 3) (tAsg (tOp (rAddG K) (tVar 2) (tCall s_law_built [] E0 (tCons (tVar 3) (tCons (tVar 1) tNil)))) (gName 2)))
  (tRet (tOp (rAddG K) (tVar 2) (tLstN (tCons (tTupN (tCons (tIxG K w (tVar 0) (tC (.int 0))) tNil)) tNil)))))))))
def t_law_done (K : PySem.W.Frag) (w : World) (s_law_draw : Sp) (s_law_built : Sp) (s_law_opened : Sp) (s_law_done : Sp) : TS :=
  (tSeq (tAsg (tSl (rSlG K) (tLstN (tCons (tTupN (tCons (tC (.str "do")) (tCons (tVar 2) tNil))) tNil)) tNoPart (tPart (tCB (rLenG K) (tCons (tVar 2) tNil)))) (gName 4))
  (tSeq (tIfS (tOr (tTest (tOp (rInG K w false) (tIxG K w (tVar 1) (tC (.int 0))) (tTupN (tCons (tC (.str "number")) (tCons (tC (.str "name")) (tCons (tC (.str "fun")) (tCons (tC (.str "give")) (tCons (tC (.str "pair")) tNil)))))))) (tAnd (tTest (tOp (rNeG K) (tVar 0) (tLstN tNil))) (tTest (tOp (rEqG K) (tCall s_law_draw [] E0 (tCons (tVar 0) (tCons (tC (.int 3)) tNil))) (tC (.int 0)))))) (tRet (tOp (rAddG K) (tCall s_law_built [] E0 (tCons (tVar 1) (tCons (tVar 3) tNil))) (tVar 4))) tNext)
  (tSeq (tIfS (tTest (tOp (rEqG K) (tIxG K w (tVar 1) (tC (.int 0))) (tC (.str "let")))) (tRet (tOp (rAddG K) (tCall s_law_opened [] E0 (tCons (tVar 1) (tCons (tVar 3) tNil))) (tCall s_law_done [] E0 (tCons (tVar 0) (tCons (tIxG K w (tVar 1) (tC (.int 2))) (tCons (tVar 2) (tCons (tVar 3) tNil))))))) tNext)
  (tSeq (tIfS (tTest (tOp (rInG K w false) (tIxG K w (tVar 1) (tC (.int 0))) (tTupN (tCons (tC (.str "left")) (tCons (tC (.str "right")) tNil))))) (tRet (tOp (rAddG K) (tOp (rAddG K) (tCall s_law_done [] E0 (tCons (tVar 0) (tCons (tIxG K w (tVar 1) (tC (.int 1))) (tCons (tC (.str "pair")) (tCons (tVar 3) tNil))))) (tLstN (tCons (tTupN (tCons (tC (.str "side")) (tCons (tIxG K w (tVar 1) (tC (.int 0))) tNil))) tNil))) (tVar 4))) tNext)
  (tSeq (tAsg (tCall s_law_done [] E0 (tCons (tVar 0) (tCons (tIxG K w (tVar 1) (tC (.int 1))) (tCons (tC (.str "number")) (tCons (tVar 3) tNil))))) (gName 5))
  (tSeq (tIfS (tTest (tOp (rEqG K) (tIxG K w (tVar 1) (tC (.int 0))) (tC (.str "when")))) (tSeq (tPar 6 7 (tCons (tCall s_law_done [] E0 (tCons (tVar 0) (tCons (tIxG K w (tVar 1) (tC (.int 2))) (tCons (tVar 2) (tCons (tVar 3) tNil))))) (tCons (tCall s_law_done [] E0 (tCons (tVar 0) (tCons (tIxG K w (tVar 1) (tC (.int 3))) (tCons (tVar 2) (tCons (tVar 3) tNil))))) tNil)))
  (tRet (tOp (rAddG K) (tVar 5) (tLstN (tCons (tTupN (tCons (tC (.str "turn")) (tCons (tCB (rTupleG K) (tCons (tVar 6) tNil)) (tCons (tCB (rTupleG K) (tCons (tVar 7) tNil)) tNil)))) tNil))))) tNext)
  (tSeq (tAsg (tOp (rAddG K) (tOp (rAddG K) (tVar 5) (tCall s_law_done [] E0 (tCons (tVar 0) (tCons (tIxG K w (tVar 1) (tC (.int 2))) (tCons (tC (.str "number")) (tCons (tVar 3) tNil)))))) (tLstN (tCons (tTupN (tCons (tC (.str "now")) (tCons (tIxG K w (tVar 1) (tC (.int 0))) tNil))) tNil))) (gName 5))
  (tRet (tOp (rAddG K) (tVar 5) (tSl (rSlG K) (tLstN (tCons (tTupN (tCons (tC (.str "do")) (tCons (tC (.str "pair")) tNil))) tNil)) tNoPart (tPart (tCB rIntG (tCons (tOp (rEqG K) (tVar 2) (tC (.str "pair"))) tNil)))))))))))))
def t_law_functions (K : PySem.W.Frag) (w : World) : TS :=
  (tRet (tOp (rAddG K) (tLc (iSeq K (tIxG K w (tVar 0) (tC (.int 0)))) (gName 1) tYes (tIxG K w (tVar 1) (tC (.int 0))) [1]) (tLstN (tCons (tC (.str "")) tNil))))
def t_law_same (K : PySem.W.Frag) (w : World) : TS :=
  (tRet (tOp (rEqG K) (tCB (rRepr K) (tCons (tVar 0) tNil)) (tCB (rRepr K) (tCons (tVar 1) tNil))))
def t_law_met (K : PySem.W.Frag) (w : World) (s_law_same : Sp) : TS :=
  (tRet (tLc (iSeq K (tLstN (tCons (tC (.int 0)) tNil))) (gName 3) (tTru K (tCall s_law_same [] E0 (tCons (tCB (rListG K) (tCons (tSl (rSlG K) (tVar 0) (tPart (tVar 1)) (tPart (tOp (rAddG K) (tVar 1) (tCB (rLenG K) (tCons (tVar 2) tNil))))) tNil)) (tCons (tVar 2) tNil)))) (tOp (rAddG K) (tVar 1) (tCB (rLenG K) (tCons (tVar 2) tNil))) [3]))
def t_law_turned (K : PySem.W.Frag) (w : World) (s_law_same : Sp) (s_law_ends : Sp) : TS :=
  (tSeq (tIfS (tOr (tTest (tOp (rEqT K) (tVar 0) (tTupN tNil))) (tOr (tNot (tTru K (tCB (rIsiG K) (tCons (tIxG K w (tVar 0) (tC (.int 0))) (tCons (tC (.ty "tuple")) tNil))))) (tOr (tTest (tOp (rNeG K) (tCB (rLenG K) (tCons (tIxG K w (tVar 0) (tC (.int 0))) tNil)) (tC (.int 3)))) (tNot (tTru K (tCall s_law_same [] E0 (tCons (tIxG K w (tIxG K w (tVar 0) (tC (.int 0))) (tC (.int 0))) (tCons (tC (.str "turn")) tNil)))))))) (tRet (tC (.bl false))) tNext)
  (tSeq (tFor (iSeq K (tLstN (tCons (tTupN (tCons (tIxG K w (tIxG K w (tVar 0) (tC (.int 0))) (tC (.int 1))) (tCons (tIxG K w (tVar 1) (tC (.int 2))) tNil))) (tCons (tTupN (tCons (tIxG K w (tIxG K w (tVar 0) (tC (.int 0))) (tC (.int 2))) (tCons (tIxG K w (tVar 1) (tC (.int 3))) tNil))) tNil)))) (gTup K 2 (gCons (gName 4) (gCons (gName 5) gNil))) (tIfS (tOr (tNot (tTru K (tCB (rIsiG K) (tCons (tVar 4) (tCons (tC (.ty "tuple")) tNil))))) (tTest (tOp (rInG K w true) (tCB (rLenG K) (tCons (tVar 4) tNil)) (tCall s_law_ends [] E0 (tCons (tVar 4) (tCons (tC (.int 0)) (tCons (tVar 5) (tCons (tVar 2) (tCons (tVar 3) tNil))))))))) (tRet (tC (.bl false))) tNext))
  (tRet (tC (.bl true)))))
def t_law_ends (K : PySem.W.Frag) (w : World) (s_law_met : Sp) (s_law_built : Sp) (s_law_opened : Sp) (s_law_ends : Sp) (s_law_turned : Sp) : TS :=
  (tSeq (tAsg (tSl (rSlG K) (tLstN (tCons (tTupN (tCons (tC (.str "do")) (tCons (tVar 3) tNil))) tNil)) tNoPart (tPart (tCB (rLenG K) (tCons (tVar 3) tNil)))) (gName 5))
  (tSeq (tAsg (tCall s_law_met [] E0 (tCons (tVar 0) (tCons (tVar 1) (tCons (tOp (rAddG K) (tCall s_law_built [] E0 (tCons (tVar 2) (tCons (tVar 4) tNil))) (tVar 5)) tNil)))) (gName 6))
  (tSeq (tIfS (tTest (tOp (rEqG K) (tIxG K w (tVar 2) (tC (.int 0))) (tC (.str "let")))) (tFor (iSeq K (tCall s_law_met [] E0 (tCons (tVar 0) (tCons (tVar 1) (tCons (tCall s_law_opened [] E0 (tCons (tVar 2) (tCons (tVar 4) tNil))) tNil))))) (gName 7) (tAsg (tOp (rAddG K) (tVar 6) (tCall s_law_ends [] E0 (tCons (tVar 0) (tCons (tVar 7) (tCons (tIxG K w (tVar 2) (tC (.int 2))) (tCons (tVar 3) (tCons (tVar 4) tNil))))))) (gName 6))) tNext)
  (tSeq (tIfS (tTest (tOp (rInG K w false) (tIxG K w (tVar 2) (tC (.int 0))) (tTupN (tCons (tC (.str "left")) (tCons (tC (.str "right")) tNil))))) (tFor (iSeq K (tCall s_law_ends [] E0 (tCons (tVar 0) (tCons (tVar 1) (tCons (tIxG K w (tVar 2) (tC (.int 1))) (tCons (tC (.str "pair")) (tCons (tVar 4) tNil))))))) (gName 7) (tAsg (tOp (rAddG K) (tVar 6) (tCall s_law_met [] E0 (tCons (tVar 0) (tCons (tVar 7) (tCons (tOp (rAddG K) (tLstN (tCons (tTupN (tCons (tC (.str "side")) (tCons (tIxG K w (tVar 2) (tC (.int 0))) tNil))) tNil)) (tVar 5)) tNil))))) (gName 6))) tNext)
  (tSeq (tIfS (tTest (tOp (rEqG K) (tIxG K w (tVar 2) (tC (.int 0))) (tC (.str "when")))) (tFor (iSeq K (tCall s_law_ends [] E0 (tCons (tVar 0) (tCons (tVar 1) (tCons (tIxG K w (tVar 2) (tC (.int 1))) (tCons (tC (.str "number")) (tCons (tVar 4) tNil))))))) (gName 7) (tAsg (tOp (rAddG K) (tVar 6) (tSl (rSlG K) (tLstN (tCons (tOp (rAddG K) (tVar 7) (tC (.int 1))) tNil)) tNoPart (tPart (tCB rIntG (tCons (tCall s_law_turned [] E0 (tCons (tSl (rSlG K) (tVar 0) (tPart (tVar 7)) (tPart (tOp (rAddG K) (tVar 7) (tC (.int 1))))) (tCons (tVar 2) (tCons (tVar 3) (tCons (tVar 4) tNil))))) tNil))))) (gName 6))) tNext)
  (tSeq (tIfS (tTest (tOp (rInG K w false) (tIxG K w (tVar 2) (tC (.int 0))) (tTupN (tCons (tC (.str "plus")) (tCons (tC (.str "less")) (tCons (tC (.str "times")) (tCons (tC (.str "below")) tNil))))))) (tSeq (tAsg (tOp (rAddG K) (tLstN (tCons (tTupN (tCons (tC (.str "now")) (tCons (tIxG K w (tVar 2) (tC (.int 0))) tNil))) tNil)) (tSl (rSlG K) (tLstN (tCons (tTupN (tCons (tC (.str "do")) (tCons (tC (.str "pair")) tNil))) tNil)) tNoPart (tPart (tCB rIntG (tCons (tOp (rEqG K) (tVar 3) (tC (.str "pair"))) tNil))))) (gName 8))
  (tFor (iSeq K (tCall s_law_ends [] E0 (tCons (tVar 0) (tCons (tVar 1) (tCons (tIxG K w (tVar 2) (tC (.int 1))) (tCons (tC (.str "number")) (tCons (tVar 4) tNil))))))) (gName 9) (tFor (iSeq K (tCall s_law_ends [] E0 (tCons (tVar 0) (tCons (tVar 9) (tCons (tIxG K w (tVar 2) (tC (.int 2))) (tCons (tC (.str "number")) (tCons (tVar 4) tNil))))))) (gName 7) (tAsg (tOp (rAddG K) (tVar 6) (tCall s_law_met [] E0 (tCons (tVar 0) (tCons (tVar 7) (tCons (tVar 8) tNil))))) (gName 6))))) tNext)
  (tRet (tCB (rSortSet w) (tCons (tCB (rSetLI K w) (tCons (tVar 6) tNil)) tNil)))))))))
def t_law_let_by (K : PySem.W.Frag) (w : World) (s_law_same : Sp) (s_law_body_of : Sp) (s_law_ends : Sp) (s_law_ways : Sp) : TS :=
  (tSeq (tIfS (tOr (tNot (tTru K (tCB (rIsiG K) (tCons (tVar 2) (tCons (tC (.ty "tuple")) tNil))))) (tOr (tTest (tOp (rEqT K) (tVar 2) (tTupN tNil))) (tNot (tTru K (tCall s_law_same [] E0 (tCons (tIxG K w (tVar 2) (tUn (rU fun i => .int (-i)) (tC (.int 1)))) (tCons (tTupN (tCons (tC (.str "back")) tNil)) tNil))))))) (tRet (tC (.bl false))) tNext)
  (tSeq (tAsg (tIxG K w (tCall s_law_body_of [] E0 (tCons (tVar 0) (tCons (tVar 1) tNil))) (tC (.int 1))) (gName 3))
  (tRet (tOp (rInG K w false) (tOp rSubG (tCB (rLenG K) (tCons (tVar 2) tNil)) (tC (.int 1))) (tCall s_law_ends [] E0 (tCons (tSl (rSlG K) (tVar 2) tNoPart (tPart (tUn (rU fun i => .int (-i)) (tC (.int 1))))) (tCons (tC (.int 0)) (tCons (tVar 3) (tCons (tC (.str "")) (tCons (tCall s_law_ways [] E0 (tCons (tVar 0) (tCons (tVar 1) tNil))) tNil))))))))))
def t_law_other (K : PySem.W.Frag) (w : World) (s_law_draw : Sp) : TS :=
  (tSeq (tIfS (tTru K (tCB (rIsiG K) (tCons (tVar 1) (tCons (tC (.ty "int")) tNil)))) (tRet (tOp (rAddB K) (tVar 1) (tIxG K w (tLstN (tCons (tC (.int 1)) (tCons (tUn (rU fun i => .int (-i)) (tC (.int 1))) (tCons (tC (.int 2)) (tCons (tC (.int 3)) tNil))))) (tCall s_law_draw [] E0 (tCons (tVar 0) (tCons (tC (.int 4)) tNil)))))) tNext)
  (tSeq (tIfS (tTru K (tCB (rIsiG K) (tCons (tVar 1) (tCons (tC (.ty "str")) tNil)))) (tRet (tIxG K w (tM1 rSplitG (tC (.str "number pair plus less times below left right do any")) (tC (.str " "))) (tCall s_law_draw [] E0 (tCons (tVar 0) (tCons (tC (.int 10)) tNil))))) tNext)
  (tSeq (tIfS (tNot (tTru K (tCB (rIsiG K) (tCons (tVar 1) (tCons (tC (.ty "tuple")) tNil))))) (tRet (tC (.int 0))) tNext)
  (tRet (tIxG K w (tLstN (tCons (tSl (rSlG K) (tVar 1) (tPart (tC (.int 1))) tNoPart) (tCons (tSl (rSlG K) (tVar 1) tNoPart (tPart (tUn (rU fun i => .int (-i)) (tC (.int 1))))) (tCons (tOp (rAddG K) (tVar 1) (tSl (rSlG K) (tVar 1) tNoPart (tPart (tC (.int 1))))) (tCons (tTupN tNil) (tCons (tCB (rListG K) (tCons (tVar 1) tNil)) tNil)))))) (tCall s_law_draw [] E0 (tCons (tVar 0) (tCons (tC (.int 5)) tNil))))))))
def t_law_bent_step (K : PySem.W.Frag) (w : World) (s_law_draw : Sp) (s_law_other : Sp) : TS :=
  (tSeq (tAsg (tCall s_law_draw [] E0 (tCons (tVar 0) (tCons (tC (.int 9)) tNil))) (gName 2))
  (tSeq (tAsg (tCall s_law_draw [] E0 (tCons (tVar 0) (tCons (tCB (rLenG K) (tCons (tVar 1) tNil)) tNil))) (gName 3))
  (tSeq (tIfS (tTest (tOp (rEqG K) (tVar 2) (tC (.int 0)))) (tRet (tCB (rListG K) (tCons (tVar 1) tNil))) tNext)
  (tSeq (tIfS (tTest (tOp (rEqG K) (tVar 2) (tC (.int 1)))) (tRet (tSl (rSlG K) (tVar 1) tNoPart (tPart (tUn (rU fun i => .int (-i)) (tC (.int 1)))))) tNext)
  (tSeq (tIfS (tTest (tOp (rEqG K) (tVar 2) (tC (.int 2)))) (tRet (tOp (rAddG K) (tVar 1) (tTupN (tCons (tIxG K w (tLstN (tCons (tC (.int 0)) (tCons (tC (.str "number")) (tCons (tC .non) (tCons (tIxG K w (tVar 1) (tUn (rU fun i => .int (-i)) (tC (.int 1)))) tNil))))) (tCall s_law_draw [] E0 (tCons (tVar 0) (tCons (tC (.int 4)) tNil)))) tNil)))) tNext)
  (tSeq (tIfS (tTest (tOp (rEqG K) (tVar 2) (tC (.int 3)))) (tRet (tCB (rTupleG K) (tCons (tLc (iSeq K (tVar 1)) (gName 4) tYes (tIf (tAnd (tTru K (tCB (rIsiG K) (tCons (tVar 4) (tCons (tC (.ty "int")) tNil)))) (tTest (tOp (rInG K w false) (tVar 4) (tTupN (tCons (tC (.int 0)) (tCons (tC (.int 1)) tNil)))))) (tCB rBool1 (tCons (tVar 4) tNil)) (tVar 4)) [4]) tNil))) tNext)
  (tSeq (tIfS (tTest (tOp rLtG (tVar 2) (tC (.int 7)))) (tRet (tOp (rAddG K) (tOp (rAddG K) (tSl (rSlG K) (tVar 1) tNoPart (tPart (tVar 3))) (tTupN (tCons (tCall s_law_other [] E0 (tCons (tVar 0) (tCons (tIxG K w (tVar 1) (tVar 3)) tNil))) tNil))) (tSl (rSlG K) (tVar 1) (tPart (tOp (rAddG K) (tVar 3) (tC (.int 1)))) tNoPart))) tNext)
  (tSeq (tAsg (tLstN (tCons (tTupN (tCons (tC (.str "do")) (tCons (tC (.str "number")) tNil))) (tCons (tTupN (tCons (tC (.str "do")) (tCons (tC (.str "pair")) tNil))) (tCons (tTupN (tCons (tC (.str "do")) (tCons (tC (.str "any")) tNil))) (tCons (tTupN (tCons (tC (.str "back")) tNil)) (tCons (tTupN (tCons (tC (.str "number")) (tCons (tC (.int 0)) tNil))) (tCons (tTupN (tCons (tC (.str "thing")) (tCons (tC (.int 0)) tNil))) (tCons (tTupN (tCons (tC (.str "local")) (tCons (tC (.int 0)) tNil))) tNil)))))))) (gName 5))
  (tSeq (tAsg (tOp (rAddG K) (tVar 5) (tLstN (tCons (tTupN (tCons (tC (.str "room")) (tCons (tC (.int 0)) (tCons (tC (.int 1)) tNil)))) (tCons (tTupN (tCons (tC (.str "tie")) (tCons (tC (.int 0)) tNil))) (tCons (tTupN (tCons (tC (.str "now")) (tCons (tC (.str "plus")) tNil))) (tCons (tTupN (tCons (tC (.str "side")) (tCons (tC (.str "left")) tNil))) (tCons (tTupN (tCons (tC (.str "give")) tNil)) (tCons (tTupN (tCons (tC (.str "pair")) tNil)) (tCons (tTupN (tCons (tC (.str "when")) tNil)) tNil))))))))) (gName 5))
  (tSeq (tAsg (tOp (rAddG K) (tVar 5) (tLstN (tCons (tTupN (tCons (tC (.str "turn")) (tCons (tTupN tNil) (tCons (tTupN tNil) tNil)))) (tCons (tC .non) (tCons (tC (.int 3)) (tCons (tC (.str "back")) (tCons (tTupN tNil) (tCons (tTupN (tCons (tC (.str "fun")) (tCons (tC (.str "a")) tNil))) (tCons (tTupN (tCons (tC (.str "left")) tNil)) tNil))))))))) (gName 5))
  (tRet (tIxG K w (tVar 5) (tCall s_law_draw [] E0 (tCons (tVar 0) (tCons (tCB (rLenG K) (tCons (tVar 5) tNil)) tNil)))))))))))))))
def t_law_bent (K : PySem.W.Frag) (w : World) (s_law_draw : Sp) (s_law_bent : Sp) (s_law_bent_step : Sp) : TS :=
  (tSeq (tAsg (tCall s_law_draw [] E0 (tCons (tVar 0) (tCons (tCB (rLenG K) (tCons (tVar 1) tNil)) tNil))) (gName 2))
  (tSeq (tAsg (tCall s_law_draw [] E0 (tCons (tVar 0) (tCons (tCB (rLenG K) (tCons (tVar 1) tNil)) tNil))) (gName 3))
  (tSeq (tAsg (tIxG K w (tVar 1) (tVar 2)) (gName 4))
  (tSeq (tIfS (tOr (tNot (tTru K (tCB (rIsiG K) (tCons (tVar 4) (tCons (tC (.ty "tuple")) tNil))))) (tTest (tOp (rEqT K) (tVar 4) (tTupN tNil)))) (tRet (tOp (rAddG K) (tSl (rSlG K) (tVar 1) tNoPart (tPart (tVar 2))) (tSl (rSlG K) (tVar 1) (tPart (tOp (rAddG K) (tVar 2) (tC (.int 1)))) tNoPart))) tNext)
  (tSeq (tIfS (tAnd (tTest (tOp (rEqG K) (tIxG K w (tVar 4) (tC (.int 0))) (tC (.str "turn")))) (tAnd (tTest (tOp (rEqG K) (tCB (rLenG K) (tCons (tVar 4) tNil)) (tC (.int 3)))) (tTest (tOp rGtG (tCall s_law_draw [] E0 (tCons (tVar 0) (tCons (tC (.int 3)) tNil))) (tC (.int 0)))))) (tSeq (tAsg (tOp (rAddG K) (tC (.int 1)) (tCall s_law_draw [] E0 (tCons (tVar 0) (tCons (tC (.int 2)) tNil)))) (gName 5))
  (tIfS (tAnd (tTru K (tCB (rIsiG K) (tCons (tIxG K w (tVar 4) (tVar 5)) (tCons (tC (.ty "tuple")) tNil)))) (tTest (tOp (rNeG K) (tIxG K w (tVar 4) (tVar 5)) (tTupN tNil)))) (tRet (tOp (rAddG K) (tOp (rAddG K) (tSl (rSlG K) (tVar 1) tNoPart (tPart (tVar 2))) (tTupN (tCons (tOp (rAddG K) (tOp (rAddG K) (tSl (rSlG K) (tVar 4) tNoPart (tPart (tVar 5))) (tTupN (tCons (tCall s_law_bent [] E0 (tCons (tVar 0) (tCons (tIxG K w (tVar 4) (tVar 5)) tNil))) tNil))) (tSl (rSlG K) (tVar 4) (tPart (tOp (rAddG K) (tVar 5) (tC (.int 1)))) tNoPart)) tNil))) (tSl (rSlG K) (tVar 1) (tPart (tOp (rAddG K) (tVar 2) (tC (.int 1)))) tNoPart))) tNext)) tNext)
  (tSeq (tAsg (tCall s_law_draw [] E0 (tCons (tVar 0) (tCons (tC (.int 8)) tNil))) (gName 6))
  (tSeq (tIfS (tTest (tOp (rEqG K) (tVar 6) (tC (.int 0)))) (tRet (tOp (rAddG K) (tSl (rSlG K) (tVar 1) tNoPart (tPart (tVar 2))) (tSl (rSlG K) (tVar 1) (tPart (tOp (rAddG K) (tVar 2) (tC (.int 1)))) tNoPart))) tNext)
  (tSeq (tIfS (tTest (tOp (rEqG K) (tVar 6) (tC (.int 1)))) (tRet (tOp (rAddG K) (tSl (rSlG K) (tVar 1) tNoPart (tPart (tOp (rAddG K) (tVar 2) (tC (.int 1))))) (tSl (rSlG K) (tVar 1) (tPart (tVar 2)) tNoPart))) tNext)
  (tSeq (tIfS (tTest (tOp (rEqG K) (tVar 6) (tC (.int 2)))) (tSeq (tPar 7 8 (tCons (tCB rMin2 (tCons (tVar 2) (tCons (tVar 3) tNil))) (tCons (tCB rMax2 (tCons (tVar 2) (tCons (tVar 3) tNil))) tNil)))
  (tRet (tOp (rAddG K) (tOp (rAddG K) (tOp (rAddG K) (tOp (rAddG K) (tSl (rSlG K) (tVar 1) tNoPart (tPart (tVar 7))) (tSl (rSlG K) (tVar 1) (tPart (tVar 8)) (tPart (tOp (rAddG K) (tVar 8) (tC (.int 1)))))) (tSl (rSlG K) (tVar 1) (tPart (tOp (rAddG K) (tVar 7) (tC (.int 1)))) (tPart (tVar 8)))) (tOp (rRepB K) (tSl (rSlG K) (tVar 1) (tPart (tVar 7)) (tPart (tOp (rAddG K) (tVar 7) (tC (.int 1))))) (tCB rIntG (tCons (tOp rLtG (tVar 7) (tVar 8)) tNil)))) (tSl (rSlG K) (tVar 1) (tPart (tOp (rAddG K) (tVar 8) (tC (.int 1)))) tNoPart)))) tNext)
  (tSeq (tIfS (tTest (tOp (rEqG K) (tVar 6) (tC (.int 3)))) (tRet (tIxG K w (tLstN (tCons (tSl (rSlG K) (tVar 1) tNoPart (tPart (tVar 2))) (tCons (tSl (rSlG K) (tVar 1) (tPart (tVar 2)) tNoPart) (tCons (tOp (rAddG K) (tVar 1) (tSl (rSlG K) (tVar 1) (tPart (tVar 2)) (tPart (tOp (rAddG K) (tVar 2) (tC (.int 1)))))) tNil)))) (tCall s_law_draw [] E0 (tCons (tVar 0) (tCons (tC (.int 3)) tNil))))) tNext)
  (tRet (tOp (rAddG K) (tOp (rAddG K) (tSl (rSlG K) (tVar 1) tNoPart (tPart (tVar 2))) (tTupN (tCons (tCall s_law_bent_step [] E0 (tCons (tVar 0) (tCons (tVar 4) tNil))) tNil))) (tSl (rSlG K) (tVar 1) (tPart (tOp (rAddG K) (tVar 2) (tC (.int 1)))) tNoPart)))))))))))))
def t_law (K : PySem.W.Frag) (w : World) (s_law_pen : Sp) (s_law_program : Sp) (s_law_functions : Sp) (s_law_draw : Sp) (s_law_ways : Sp) (s_law_body_of : Sp) (s_law_done : Sp) (s_law_built : Sp) (s_law_bent : Sp) (s_law_same : Sp) (s_law_let_by : Sp) (s_lets_by : Sp) : TS :=
  (tSeq (tAsg (tCall s_law_pen [] E0 (tCons (tVar 0) tNil)) (gName 1))
  (tSeq (tAsg (tCall s_law_program [] E0 (tCons (tVar 1) tNil)) (gName 2))
  (tSeq (tAsg (tCall s_law_functions [] E0 (tCons (tVar 2) tNil)) (gName 3))
  (tSeq (tFor (iRng1 (tCons (tC (.int 4)) tNil)) (gName 4) (tSeq (tAsg (tIxG K w (tVar 3) (tCall s_law_draw [] E0 (tCons (tVar 1) (tCons (tCB (rLenG K) (tCons (tVar 3) tNil)) tNil)))) (gName 5))
  (tSeq (tPar 6 7 (tCons (tIxG K w (tCall s_law_body_of [] E0 (tCons (tVar 2) (tCons (tVar 5) tNil))) (tC (.int 1))) (tCons (tCall s_law_ways [] E0 (tCons (tVar 2) (tCons (tVar 5) tNil))) tNil)))
  (tSeq (tAsg (tIxG K w (tLstN (tCons (tCall s_law_built [] E0 (tCons (tVar 6) (tCons (tVar 7) tNil))) (tCons (tCall s_law_done [] E0 (tCons (tLstN tNil) (tCons (tVar 6) (tCons (tC (.str "")) (tCons (tVar 7) tNil))))) (tCons (tCall s_law_done [] E0 (tCons (tVar 1) (tCons (tVar 6) (tCons (tC (.str "")) (tCons (tVar 7) tNil))))) tNil)))) (tCall s_law_draw [] E0 (tCons (tVar 1) (tCons (tC (.int 3)) tNil)))) (gName 8))
  (tSeq (tAsg (tCall s_law_bent [] E0 (tCons (tVar 1) (tCons (tCB (rTupleG K) (tCons (tOp (rAddG K) (tVar 8) (tLstN (tCons (tTupN (tCons (tC (.str "back")) tNil)) tNil))) tNil)) tNil))) (gName 9))
  (tFor (iSeq K (tLstN (tCons (tVar 9) (tCons (tCall s_law_bent [] E0 (tCons (tVar 1) (tCons (tOp (rAddG K) (tVar 9) (tTupN (tCons (tTupN (tCons (tC (.str "back")) tNil)) tNil))) tNil))) tNil)))) (gName 10) (tIfS (tNot (tTru K (tCall s_law_same [] E0 (tCons (tCall s_lets_by [] E0 (tCons (tVar 2) (tCons (tVar 5) (tCons (tVar 10) tNil)))) (tCons (tCall s_law_let_by [] E0 (tCons (tVar 2) (tCons (tVar 5) (tCons (tVar 10) tNil)))) tNil))))) (tRet (tC (.bl false))) tNext)))))))
  (tRet (tOp (rEqG K) (tVar 2) (tCall s_law_program [] E0 (tCons (tCall s_law_pen [] E0 (tCons (tVar 0) tNil)) tNil))))))))
/-! ### the draws -/
theorem pen_ne {H : Hp} {pen L : Addr} {ns : List Int} {i j : Int} (hp : H pen = some (.lst [.ref L, .int i, .int j])) (hL : H L = some (.lst (ns.map V.int))) : L ≠ pen := by
  rintro rfl
  rw [hL] at hp
  have := congrArg (fun o => match o with | some (HO.lst (x :: _)) => (match x with | .ref _ => true | _ => false) | _ => false) hp
  cases ns <;> simp at this
/-- a pen: the script's list L, the turn, what is left of a great number -/
def PenAt (H : Hp) (pen L : Addr) : Prop := ∃ (ns : List Int) (at_ rest : Int), H pen = some (.lst [.ref L, .int at_, .int rest]) ∧ H L = some (.lst (ns.map V.int)) ∧ 0 ≤ at_ ∧ 0 ≤ rest ∧ ns.length ≤ 63
section
variable {H H' : Hp} {pen L d : Addr}
theorem PenAt.same (h : PenAt H pen L) (s : Same H H') : PenAt H' pen L := by
  obtain ⟨ns, a, r, hp, hL, x⟩ := h
  exact ⟨ns, a, r, s _ _ hp, s _ _ hL, x⟩
/-- a pen stays where another object changes -/
theorem PenAt.chg (h : PenAt H pen L) (c : Chg d H H') (n1 : pen ≠ d) (n2 : L ≠ d) : PenAt H' pen L := by
  obtain ⟨ns, a, r, hp, hL, x⟩ := h
  exact ⟨ns, a, r, c _ _ n1 hp, c _ _ n2 hL, x⟩
theorem PenAt.ne (h : PenAt H pen L) (hd : H d = none) : pen ≠ d ∧ L ≠ d := by
  obtain ⟨ns, a, r, hp, hL, x⟩ := h
  exact ⟨ne_of_none hp hd, ne_of_none hL hd⟩
end
/-- a pen's state: the script, the turn, what is left of a great number -/
structure PenS where
  ns : List Int
  at_ : Int
  rest : Int
def PenS.cell (s : PenS) : Int := match atI (s.ns.map V.int ++ [V.int 7]) (s.at_ % max 1 ((s.ns.map V.int).length : Int)) with
  | some (.int c) => c
  | _ => 0
def PenS.prime (s : PenS) : Int := match atI [V.int 2147483647, V.int 2147483629, V.int 2147483587, V.int 2147483579, V.int 2147483563, V.int 2147483549, V.int 2147483543] (s.at_ % 7) with
  | some (.int c) => c
  | _ => 1
def mix1 (c a p : Int) : Int := (c % 2147483497 + 69621 * a + 13) * 48271 % p
def mix2 (x a : Int) : Int := (x * x + 40692 * x + a) % 2147483489
def mix3 (y : Int) : Int := y * 16807 % 2147483477
def PenS.mix (s : PenS) : Int := mix3 (mix2 (mix1 s.cell s.at_ s.prime) s.at_)
def PenS.draw (s : PenS) (many : Int) : Int × PenS :=
  if 0 < s.rest then (s.rest % many, ⟨s.ns, s.at_, s.rest / many⟩)
  else if s.at_ < ((s.ns.map V.int).length : Int) ∧ (10 : Int) ^ Int.toNat 18 ≤ (s.cell.natAbs : Int) then ((s.cell.natAbs : Int) % many, ⟨s.ns, s.at_ + 1, (s.cell.natAbs : Int) / many⟩)
  else ((if (10 : Int) ^ Int.toNat 7 < many then s.mix ^ Int.toNat 8 else s.mix) / 32 % many, ⟨s.ns, s.at_ + 1, s.rest⟩)
theorem PenS.draw_lo (s : PenS) {many : Int} (h : 0 < many) : 0 ≤ (s.draw many).1 ∧ (s.draw many).1 < many := by
  unfold PenS.draw
  split
  · exact ⟨Int.emod_nonneg _ (Int.ne_of_gt h), Int.emod_lt_of_pos _ h⟩
  · split
    · exact ⟨Int.emod_nonneg _ (Int.ne_of_gt h), Int.emod_lt_of_pos _ h⟩
    · exact ⟨Int.emod_nonneg _ (Int.ne_of_gt h), Int.emod_lt_of_pos _ h⟩
structure PenD (H : Hp) (pen L : Addr) (s : PenS) : Prop where
  hp : H pen = some (.lst [.ref L, .int s.at_, .int s.rest])
  hL : H L = some (.lst (s.ns.map V.int))
  a0 : 0 ≤ s.at_
  r0 : 0 ≤ s.rest
  few : s.ns.length ≤ 63
theorem PenD.pe {H : Hp} {pen L : Addr} {s : PenS} (h : PenD H pen L s) : PenAt H pen L := ⟨s.ns, s.at_, s.rest, h.hp, h.hL, h.a0, h.r0, h.few⟩
theorem PenAt.d {H : Hp} {pen L : Addr} (h : PenAt H pen L) : ∃ s, PenD H pen L s := by
  obtain ⟨ns, a, r, h1, h2, h3, h4, h5⟩ := h
  exact ⟨⟨ns, a, r⟩, h1, h2, h3, h4, h5⟩
section
variable {H H' : Hp} {pen L d : Addr} {s : PenS}
theorem PenD.same (h : PenD H pen L s) (k : Same H H') : PenD H' pen L s := ⟨k _ _ h.hp, k _ _ h.hL, h.a0, h.r0, h.few⟩
theorem PenD.chg (h : PenD H pen L s) (c : Chg d H H') (n1 : pen ≠ d) (n2 : L ≠ d) : PenD H' pen L s := ⟨c _ _ n1 h.hp, c _ _ n2 h.hL, h.a0, h.r0, h.few⟩
theorem PenD.ne (h : PenD H pen L s) (hd : H d = none) : pen ≠ d ∧ L ≠ d := h.pe.ne hd
end
def spDraw : Sp := fun vs H Q _ => ∃ (pen L : Addr) (many : Int) (s : PenS), vs = [.ref pen, .int many] ∧ PenD H pen L s ∧ 0 < many ∧ many.natAbs < 2 ^ 250 ∧
  ∀ H' : Hp, PenD H' pen L (s.draw many).2 → Chg pen H H' → Q (.int (s.draw many).1) H'
/-- the draw, told exactly -/
theorem g_drawD {H : Hp} {Q : VK} {E : XK} {pen L : Addr} {s : PenS} {many : Int} (h : PenD H pen L s) (h0 : 0 < many) (h1 : many.natAbs < 2 ^ 250) (q : ∀ (v : Int) (s' : PenS) (H' : Hp), s.draw many = (v, s') → 0 ≤ v → v < many → PenD H' pen L s' → Chg pen H H' → Q (.int v) H') :
    spDraw ([.ref pen, .int many] ++ []) H Q E := ⟨pen, L, many, s, rfl, h, h0, h1, fun H' hp c => q _ _ H' rfl (s.draw_lo h0).1 (s.draw_lo h0).2 hp c⟩
theorem g_draw {H : Hp} {Q : VK} {E : XK} {pen L : Addr} {many : Int} (h : PenAt H pen L) (h0 : 0 < many) (h1 : many.natAbs < 2 ^ 250) (q : ∀ (v : Int) (H' : Hp), 0 ≤ v → v < many → PenAt H' pen L → Chg pen H H' → Q (.int v) H') :
    spDraw ([.ref pen, .int many] ++ []) H Q E := by
  obtain ⟨s, hs⟩ := h.d
  exact g_drawD hs h0 h1 fun v s' H' _ v0 v1 hp c => q v H' v0 v1 hp.pe c
theorem pure_draw {K : PySem.W.Frag} {w : World} : PureOk 2 spDraw (t_law_draw K w) 7 := by
  refine ⟨fun vs H Q E ⟨pen, L, many, _, e, _⟩ => by rw [e]; rfl, ?_⟩
  rintro vs H Q E ⟨pen, L, many, ⟨ns, at_, rest⟩, rfl, ⟨hp, hL, h0, h1, hl⟩, hm, hmb, q'⟩
  dsimp only at hp hL h0 h1 hl
  have hne : L ≠ pen := pen_ne hp hL
  have q : ∀ (v a' r' : Int) (H' : Hp), PenS.draw ⟨ns, at_, rest⟩ many = (v, ⟨ns, a', r'⟩) → 0 ≤ a' → 0 ≤ r' → H' pen = some (.lst [.ref L, .int a', .int r']) → Chg pen H H' → Q (.int v) H' :=
    fun v a' r' H' ev a0 r0 e c => by
      have := q' H'
      rw [ev] at this
      exact this ⟨e, c L _ hne hL, a0, r0, hl⟩ c
  have hdw : ∀ x, CDivW x many := fun x => wide_div hm hmb (by decide) (by decide)
  have mod0 : ∀ x : Int, 0 ≤ x % many := fun x => Int.emod_nonneg x (Int.ne_of_gt hm)
  have mod1 : ∀ x : Int, x % many < many := fun x => Int.emod_lt_of_pos x hm
  show t_law_draw K w _ [some (.ref pen), some (.int many), none, none, none, none, none] H
  unfold t_law_draw
  walk_at "go"
  refine g_ite (fun hr => ?_) (fun hr => ?_)
  · walk_at "go"
    refine g_modI hm ?_
    walk_at "go"
    refine g_divI (hdw _) ?_
    walk_at "go"
    refine g_setL hp rfl fun H' e1 c1 => ?_
    walk_at "go"
    exact q _ at_ (rest / many) H' (by rw [PenS.draw, if_pos (of_decide_eq_true hr)]) h0 (Int.ediv_nonneg h1 (Int.le_of_lt hm)) e1 c1
  · walk_at "go"
    refine g_setL hp rfl fun H1 e1 c1 => ?_
    have hL1 := c1 L _ hne hL
    walk_at "go"
    intro p H2 np e2 s2
    have hL2 := s2 _ _ hL1
    have hp2 := s2 _ _ e1
    walk_at "go"
    refine g_addL hL2 e2 (by show _ ≤ 16777216; simp; omega) fun p' H3 np' e3 s3 => ?_
    have hL3 := s3 _ _ hL2
    have hp3 := s3 _ _ hp2
    walk_at "go"
    refine g_lenL (.of hL3) ?_
    walk_at "go"
    refine g_modI (by omega) ?_
    have hat : ∃ c : Int, atI (List.map V.int ns ++ [V.int 7]) (at_ % max 1 ((List.map V.int ns).length : Int)) = some (.int c) := by
      have a0 := Int.emod_nonneg at_ (b := max 1 ((List.map V.int ns).length : Int)) (by omega)
      have a1 := Int.emod_lt_of_pos at_ (b := max 1 ((List.map V.int ns).length : Int)) (by omega)
      obtain ⟨v, h1, h2, _⟩ := atI_in (xs := List.map V.int ns ++ [V.int 7]) a0 (by rw [List.length_append, List.length_singleton]; omega)
      rw [List.mem_append, List.mem_map] at h2
      rcases h2 with ⟨c, _, rfl⟩ | h2
      · exact ⟨c, h1⟩
      · rw [List.mem_singleton] at h2
        exact ⟨7, h2 ▸ h1⟩
    obtain ⟨c, hc⟩ := hat
    have hr0 : ¬ 0 < rest := of_decide_eq_false hr
    have ecell : PenS.cell ⟨ns, at_, rest⟩ = c := by unfold PenS.cell; dsimp only; rw [hc]
    refine g_ixL (.of e3) hc ?_
    walk_at "go"
    refine g_lenL (.of hL3) ?_
    walk_at "go"
    by_cases hbig : at_ < ((ns.map V.int).length : Int) ∧ (10 : Int) ^ Int.toNat 18 ≤ (c.natAbs : Int)
    · refine g_T (decide_eq_true hbig.1) ?_
      walk_at "go"
      refine g_powI ⟨by decide, by decide, by decide⟩ ?_
      walk_at "go"
      refine g_T (decide_eq_true hbig.2) ?_
      walk_at "go"
      refine g_divI (hdw _) ?_
      walk_at "go"
      refine g_setL hp3 rfl fun H4 e4 c4 => ?_
      walk_at "go"
      refine g_modI hm ?_
      exact q _ (at_ + 1) (c.natAbs / many) H4 (by rw [PenS.draw, if_neg hr0, ecell, if_pos hbig]) (by omega) (Int.ediv_nonneg (by omega) (Int.le_of_lt hm)) e4 ((c1.trans (.same s2)).trans ((Chg.same s3).trans c4))
    refine g_cut (B := ?B) ?f ?b
    case f =>
      intro tail
      refine g_ite (fun hat1 => ?_) (fun _ => ?_)
      · walk_at "go"
        refine g_powI ⟨by decide, by decide, by decide⟩ ?_
        walk_at "go"
        refine g_F (decide_eq_false fun h => hbig ⟨of_decide_eq_true hat1, h⟩) ?_
        exact tail.out
      · refine g_F rfl ?_
        exact tail.out
    case b =>
      walk_at "go"
      intro p4 H4 np4 e4 s4
      walk_at "go"
      refine g_modI (by decide) ?_
      obtain ⟨pr, hpr, hmem⟩ : ∃ pr : Int, atI [V.int 2147483647, V.int 2147483629, V.int 2147483587, V.int 2147483579, V.int 2147483563, V.int 2147483549, V.int 2147483543] (at_ % 7) = some (.int pr) ∧ 0 < pr ∧ pr < 2 ^ 31 := by
        obtain ⟨v, h1, h2, _⟩ := atI_in (xs := [V.int 2147483647, V.int 2147483629, V.int 2147483587, V.int 2147483579, V.int 2147483563, V.int 2147483549, V.int 2147483543]) (Int.emod_nonneg at_ (by decide)) (Int.emod_lt_of_pos at_ (b := 7) (by decide))
        simp only [List.mem_cons, List.not_mem_nil, or_false] at h2
        rcases h2 with rfl | rfl | rfl | rfl | rfl | rfl | rfl <;> exact ⟨_, h1, by decide, by decide⟩
      have eprime : PenS.prime ⟨ns, at_, rest⟩ = pr := by unfold PenS.prime; dsimp only; rw [hpr]
      refine g_ixL (.of e4) hpr ?_
      walk_at "go"
      refine g_modI (by decide) ?_
      walk_at "go"
      refine g_mulI (.inl ⟨by decide, by decide⟩) ?_
      walk_at "go"
      refine g_mulI (.inr ⟨by decide, by decide⟩) ?_
      walk_at "go"
      refine g_modI hmem.1 ?_
      have x0 := Int.emod_nonneg ((c % 2147483497 + 69621 * at_ + 13) * 48271) (Int.ne_of_gt hmem.1)
      have x1 := Int.emod_lt_of_pos ((c % 2147483497 + 69621 * at_ + 13) * 48271) hmem.1
      generalize ex : (c % 2147483497 + 69621 * at_ + 13) * 48271 % pr = x at x0 x1
      walk_at "go"
      refine g_mulI (.inl ⟨by omega, by omega⟩) ?_
      walk_at "go"
      refine g_mulI (.inl ⟨by decide, by decide⟩) ?_
      walk_at "go"
      refine g_modI (by decide) ?_
      have y0 := Int.emod_nonneg (x * x + 40692 * x + at_) (b := 2147483489) (by decide)
      have y1 := Int.emod_lt_of_pos (x * x + 40692 * x + at_) (b := 2147483489) (by decide)
      generalize ey : (x * x + 40692 * x + at_) % 2147483489 = y at y0 y1
      walk_at "go"
      refine g_mulI (.inl ⟨by omega, by omega⟩) ?_
      walk_at "go"
      refine g_modI (by decide) ?_
      have z0 := Int.emod_nonneg (y * 16807) (b := 2147483477) (by decide)
      have z1 := Int.emod_lt_of_pos (y * 16807) (b := 2147483477) (by decide)
      generalize ez : y * 16807 % 2147483477 = z at z0 z1
      have emix : PenS.mix ⟨ns, at_, rest⟩ = z := by rw [PenS.mix, ecell, eprime, mix1, ex, mix2, ey, mix3, ez]
      have fin : ∀ u : Int, u = (if (10 : Int) ^ Int.toNat 7 < many then z ^ Int.toNat 8 else z) → Q (.int (u / 32 % many)) H4 := fun u eu =>
        q _ (at_ + 1) rest H4 (by rw [PenS.draw, if_neg hr0, ecell, if_neg hbig, emix, eu]) (by omega) h1 (s4 _ _ hp3) ((c1.trans (.same s2)).trans ((Chg.same s3).trans (.same s4)))
      walk_at "go"
      refine g_powI ⟨by decide, by decide, by decide⟩ ?_
      walk_at "go"
      refine g_ite (fun h7 => ?_) (fun h7 => ?_)
      · walk_at "go"
        refine g_powI ⟨by decide, by decide, by omega⟩ ?_
        walk_at "go"
        refine g_divI ⟨by decide, by decide⟩ ?_
        walk_at "go"
        exact g_modI hm (fin _ (by rw [if_pos (of_decide_eq_true h7)]))
      · walk_at "go"
        refine g_divI ⟨by decide, by decide⟩ ?_
        walk_at "go"
        exact g_modI hm (fin _ (by rw [if_neg (of_decide_eq_false h7)]))

/-! ### names -/
open SX in
theorem letters_eq : (Str.ofString "abcdefghijklmnopqrstuvwxyz").cps.toList = (List.range 26).map (97 + ·) := by decide +kernel
theorem letter_at {i : Int} (h0 : 0 ≤ i) (h1 : i < 26) : atI (Str.ofString "abcdefghijklmnopqrstuvwxyz").cps.toList i = some (97 + i.toNat) := by
  refine atI_of h0 ?_
  rw [letters_eq, List.getElem?_map, List.getElem?_range (by omega)]
  rfl
theorem letters_len : (Str.ofString "abcdefghijklmnopqrstuvwxyz").length ≤ sizeLine := by
  show (Str.ofString "abcdefghijklmnopqrstuvwxyz").cps.size ≤ _
  rw [← Array.length_toList, letters_eq, List.length_map, List.length_range]
  show 26 ≤ 16777216
  omega
theorem sum_ones : ∀ cs : List Nat, ((cs.map fun c => SX.S [c]).map (·.length)).sum = cs.length
  | [] => rfl
  | c :: cs => by
    rw [List.map_cons, List.map_cons, List.sum_cons, sum_ones cs, SX.S_len, List.length_cons, List.length_cons, List.length_nil]
    omega
/-- the k-th name: the word with another letter at a place -/
def nameK (cs : List Nat) (at_ first by_ k : Nat) : Str := SX.S (cs.take at_ ++ [97 + (first + by_ * k) % 26] ++ cs.drop (at_ + 1))
theorem cutS_to (cs : List Nat) (n : Nat) (h : n ≤ cs.length) : cutS (SX.S cs) none (some (n : Int)) = SX.S (cs.take n) := by
  unfold cutS
  rw [HT.sIx_none, HT.sIx_nat, SX.S_len, Nat.min_eq_left h]
  rfl
theorem cutS_from (cs : List Nat) (n : Nat) (h : n ≤ cs.length) : cutS (SX.S cs) (some (n : Int)) none = SX.S (cs.drop n) := by
  unfold cutS
  rw [HT.sIx_none, HT.sIx_nat, SX.S_len, Nat.min_eq_left h]
  show SX.S ((cs.drop n).take (cs.length - n)) = _
  rw [List.take_of_length_le (by rw [List.length_drop]; omega)]
theorem nameK_is {cs : List Nat} {at_ first by_ k : Nat} (h : at_ < cs.length) (h8 : cs.length ≤ 8) (hc : ∀ c ∈ cs, 97 ≤ c ∧ c < 123) : isName (nameK cs at_ first by_ k) := by
  refine ⟨?_, ?_, ?_⟩
  · rw [nameK, SX.S_len]
    simp only [List.length_append, List.length_take, List.length_drop, List.length_singleton]
    omega
  · rw [nameK, SX.S_len]
    simp only [List.length_append, List.length_take, List.length_drop, List.length_singleton]
    omega
  · intro c hm
    have hm' : c ∈ cs.take at_ ++ [97 + (first + by_ * k) % 26] ++ cs.drop (at_ + 1) := hm
    simp only [List.mem_append, List.mem_singleton] at hm'
    rcases hm' with (hm' | rfl) | hm'
    · exact hc c (List.mem_of_mem_take hm')
    · omega
    · exact hc c (List.mem_of_mem_drop hm')
theorem nameK_inj {cs : List Nat} {at_ first by_ j k : Nat} (h : at_ < cs.length) (hb : by_ ∈ [1, 3, 5, 7, 9, 11]) (hj : j < 26) (hk : k < 26) (e : nameK cs at_ first by_ j = nameK cs at_ first by_ k) : j = k := by
  have e1 := SX.S_inj e
  rw [List.append_assoc, List.append_assoc] at e1
  have e2 := List.append_cancel_left e1
  simp only [List.singleton_append, List.cons.injEq, and_true] at e2
  simp only [List.mem_cons, List.not_mem_nil, or_false] at hb
  rcases hb with rfl | rfl | rfl | rfl | rfl | rfl <;> omega
/-- so many draws of one bound -/
def drawsM (many : Int) : Nat → PenS → List Nat × PenS
  | 0, s => ([], s)
  | k + 1, s => match drawsM many k s with
    | (cs, s1) => match s1.draw many with
      | (v, s2) => (cs ++ [97 + v.toNat], s2)
def byOf (y : Int) : Nat := match atI [V.int 1, V.int 3, V.int 5, V.int 7, V.int 9, V.int 11] y with
  | some (.int c) => c.toNat
  | _ => 0
def namesM (many : Int) (s : PenS) : List Str × PenS :=
  match s.draw 8 with
  | (n, s1) => match drawsM 26 (1 + n).toNat s1 with
    | (cs, s2) => match s2.draw (cs.length : Int) with
      | (v, s3) => match s3.draw 26 with
        | (f, s4) => match s4.draw 6 with
          | (y, s5) => ((List.range many.toNat).map fun k => nameK cs v.toNat f.toNat (byOf y) k, s5)
theorem drawsM_succ {many v : Int} {k : Nat} {s s1 s2 : PenS} {cs : List Nat} (h : drawsM many k s = (cs, s1)) (h2 : s1.draw many = (v, s2)) : drawsM many (k + 1) s = (cs ++ [97 + v.toNat], s2) := by
  show (match drawsM many k s with | (cs, s1) => match s1.draw many with | (v, s2) => (cs ++ [97 + v.toNat], s2)) = _
  rw [h]
  show (match s1.draw many with | (v, s2) => (cs ++ [97 + v.toNat], s2)) = _
  rw [h2]
def spNames : Sp := fun vs H Q _ => ∃ (pen L : Addr) (many : Int) (s : PenS), vs = [.ref pen, .int many] ∧ PenD H pen L s ∧ 0 ≤ many ∧ many ≤ 26 ∧
  ∀ (d : Addr) (ss : List Str) (s' : PenS) (H' : Hp), namesM many s = (ss, s') → (ss.length : Int) = many → (∀ s ∈ ss, isName s) → ss.Nodup → H d = none → H' d = some (.lst (ss.map V.str)) → PenD H' pen L s' → Chg pen H H' → Q (.ref d) H'
theorem pure_names {K : PySem.W.Frag} {w : World} : PureOk 2 spNames (t_law_names K w spDraw) 8 := by
  refine ⟨fun vs H Q E ⟨pen, L, many, _, e, _⟩ => by rw [e]; rfl, ?_⟩
  rintro vs H Q E ⟨pen, L, many, s, rfl, hP, hm0, hm1, q⟩
  show t_law_names K w _ _ [some (.ref pen), some (.int many), none, none, none, none, none, none] H
  unfold t_law_names
  walk_at "go"
  refine g_drawD hP (by decide) (by decide) fun n sA H1 dn n0 n1 hP1 c1 => ?_
  walk_at "go"
  refine g_isrng (by omega) (by omega) fun D hD => ?_
  refine lc_any (1 + n).toNat (fun i acc H' => ∃ cs : List Nat, acc = (cs.map fun c => SX.S [c]).map V.str ∧ cs.length = i ∧ (∀ c ∈ cs, 97 ≤ c ∧ c < 123) ∧ ∃ sB, drawsM 26 i sA = (cs, sB) ∧ PenD H' pen L sB ∧ Chg pen H1 H') hD
    (fun H' _ k => ⟨[], rfl, rfl, by simp, sA, rfl, hP1.same k, .same k⟩) (fun i acc H' hi _ => hi) (fun acc H' _ => Nat.le_refl _) ?_ ?_
  · rintro i x acc H2 _ hi hl ⟨cs, rfl, hc, hcs, sB, dB, hP2, c2⟩ hd2 ⟨rfl, rfl⟩
    walk_at "go"
    refine ⟨rfl, ?_⟩
    walk_at "go"
    refine g_T rfl ?_
    walk_at "go"
    refine g_drawD hP2 (by decide) (by decide) fun v sC H3 dC v0 v1 hP3 c3 => ?_
    refine g_ixS letters_len (letter_at v0 v1) ?_
    have hn := hP1.ne hD
    refine lc_step (c3 _ _ hn.1.symm hd2) hl (by show _ < 16777216; omega) fun H5 e5 c5 => ?_
    refine ⟨cs ++ [97 + v.toNat], by simp, by simp [hc], ?_, sC, drawsM_succ dB dC, hP3.chg c5 hn.1 hn.2, ?_⟩
    · intro c hm
      rw [List.mem_append, List.mem_singleton] at hm
      rcases hm with hm | rfl
      · exact hcs c hm
      · omega
    · exact fun b o hb e => c5 b o (ne_of_none e hD) (c3 b o hb (c2 b o hb e))
  · rintro acc H2 hd2 ⟨cs, rfl, hc, hcs, sB, dB, hP2, c2⟩
    have hsum := sum_ones cs
    refine ⟨_, D, cs.map fun c => SX.S [c], rfl, rfl, .inl (.of hd2), ?_, ?_⟩
    · rw [hsum, List.length_map]
      show _ + _ * 0 ≤ _
      omega
    have ej : Txt.join (Str.ofString "") (cs.map fun c => SX.S [c]) = SX.S cs := by
      have e0 : Str.ofString "" = SX.S [] := by decide +kernel
      rw [e0, show (cs.map fun c => SX.S [c]) = (cs.map fun c => [c]).map SX.S from by rw [List.map_map]; rfl, SX.join_S]
      congr 1
      have : ∀ l : List Nat, TL.joinL [] (l.map fun c => [c]) = l := by
        intro l
        induction l with
        | nil => rfl
        | cons a l ih =>
          cases l with
          | nil => rfl
          | cons b l =>
            show [a] ++ ([] ++ TL.joinL [] ((b :: l).map fun c => [c])) = _
            rw [ih]
            rfl
      exact this cs
    rw [ej]
    walk_at "go"
    refine g_lenS (by rw [SX.S_len]; show _ ≤ 16777216; omega) ?_
    rw [SX.S_len]
    walk_at "go"
    refine g_drawD (many := (cs.length : Int)) hP2 (by omega) (by omega) fun v sC H3 dC v0 v1 hP3 c3 => ?_
    walk_at "go"
    refine g_drawD hP3 (by decide) (by decide) fun f sE H4 dE f0 f1 hP4 c4 => ?_
    walk_at "go"
    intro p H5 np e5 s5
    have hP5 := hP4.same s5
    walk_at "go"
    refine g_drawD hP5 (by decide) (by decide) fun y sF H6 dF y0 y1 hP6 c6 => ?_
    obtain ⟨by_, hby, hbm⟩ : ∃ by_ : Nat, atI [V.int 1, V.int 3, V.int 5, V.int 7, V.int 9, V.int 11] y = some (.int by_) ∧ by_ ∈ [1, 3, 5, 7, 9, 11] := by
      obtain ⟨v, h1, h2, _⟩ := atI_in (xs := [V.int 1, V.int 3, V.int 5, V.int 7, V.int 9, V.int 11]) y0 y1
      simp only [List.mem_cons, List.not_mem_nil, or_false] at h2
      rcases h2 with rfl | rfl | rfl | rfl | rfl | rfl <;> first | exact ⟨1, h1, by decide⟩ | exact ⟨3, h1, by decide⟩ | exact ⟨5, h1, by decide⟩ | exact ⟨7, h1, by decide⟩ | exact ⟨9, h1, by decide⟩ | exact ⟨11, h1, by decide⟩
    have eby : byOf y = by_ := by unfold byOf; rw [hby]; exact Int.toNat_natCast by_
    have efin : namesM many s = ((List.range many.toNat).map fun k => nameK cs v.toNat f.toNat by_ k, sF) := by
      unfold namesM
      rw [dn]; dsimp only
      rw [dB]; dsimp only
      rw [dC]; dsimp only
      rw [dE]; dsimp only
      rw [dF]; dsimp only
      rw [eby]
    have npen : p ≠ pen := fun e => (hP4.ne np).1 e.symm
    refine g_ixL (.of (c6 _ _ npen e5)) hby ?_
    walk_at "go"
    refine g_isrng (by omega) (by omega) fun D2 hD2 => ?_
    have hn2 := hP6.ne hD2
    have hlen : (SX.S cs).length ≤ sizeLine := by rw [SX.S_len]; show _ ≤ 16777216; omega
    refine lc_any many.toNat (fun i acc H' => acc = ((List.range i).map fun k => nameK cs v.toNat f.toNat by_ k).map V.str ∧ PenD H' pen L sF ∧ Chg pen H6 H') hD2
      (fun H' _ k => ⟨rfl, hP6.same k, .same k⟩) (fun i acc H' hi _ => hi) (fun acc H' _ => Nat.le_refl _) ?_ ?_
    · rintro i x acc H7 _ hi hl ⟨rfl, hP7, c7⟩ hd7 ⟨rfl, rfl⟩
      walk_at "go"
      refine ⟨rfl, ?_⟩
      walk_at "go"
      refine g_T rfl ?_
      walk_at "go"
      refine g_slS hlen ?_
      walk_at "go"
      refine g_mulI (.inl ⟨by omega, by simp only [List.mem_cons, List.not_mem_nil, or_false] at hbm; omega⟩) ?_
      walk_at "go"
      refine g_modI (by decide) ?_
      refine g_ixS letters_len (letter_at (Int.emod_nonneg _ (by decide)) (Int.emod_lt_of_pos _ (by decide))) ?_
      refine g_addS (Nat.le_trans (Nat.add_le_add (cutS_length _ _ _) (Nat.le_refl _)) (by rw [SX.S_len]; show cs.length + 1 ≤ 16777216; omega)) ?_
      walk_at "go"
      refine g_slS hlen ?_
      have ek : (cutS (SX.S cs) none (some v) ++ (⟨#[97 + ((f + (by_ : Int) * (0 + (i : Int))) % 26).toNat]⟩ : Str)) ++ cutS (SX.S cs) (some (v + 1)) none = nameK cs v.toNat f.toNat by_ i := by
        have ev : v = (v.toNat : Int) := by omega
        have ev1 : v + 1 = ((v.toNat + 1 : Nat) : Int) := by omega
        rw [ev1, cutS_from _ _ (by omega)]
        rw [show cutS (SX.S cs) none (some v) = SX.S (cs.take v.toNat) from by rw (occs := .pos [1]) [ev]; exact cutS_to _ _ (by omega)]
        have e3 : ((f + (by_ : Int) * (0 + (i : Int))) % 26).toNat = (f.toNat + by_ * i) % 26 := by
          have : f + (by_ : Int) * (0 + (i : Int)) = ((f.toNat + by_ * i : Nat) : Int) := by
            rw [Int.natCast_add, Int.natCast_mul, Int.toNat_of_nonneg f0, Int.zero_add]
          rw [this]
          omega
        rw [e3]
        show SX.S _ ++ SX.S [_] ++ SX.S _ = _
        rw [SX.S_cat, SX.S_cat]
        rfl
      refine g_addS ?_ ?_
      · show (cutS (SX.S cs) none (some v) ++ _ : Str).length + (cutS (SX.S cs) (some (v + 1)) none).length ≤ 16777216
        have l1 := cutS_length (SX.S cs) none (some v)
        have l2 := cutS_length (SX.S cs) (some (v + 1)) none
        have l3 : ∀ a b : Str, (a ++ b).length = a.length + b.length := fun a b => by rw [← SX.S_tl a, ← SX.S_tl b, SX.S_cat, SX.S_len, SX.S_len, SX.S_len, List.length_append]
        have l0 := SX.S_len cs
        rw [l3]
        show _ + 1 + _ ≤ _
        omega
      · rw [ek]
        refine lc_step hd7 hl (by show _ < 16777216; omega) fun H8 e8 c8 => ?_
        exact ⟨by rw [List.range_succ]; simp, hP7.chg c8 hn2.1 hn2.2, fun b o hb e => c8 b o (ne_of_none e hD2) (c7 b o hb e)⟩
    · rintro acc H7 hd7 ⟨rfl, hP7, c7⟩
      have hfree : H D2 = none := by
        cases e : H D2 with
        | none => rfl
        | some o =>
          have : H6 D2 = some o := c6 _ _ hn2.1.symm (s5 _ _ (c4 _ _ hn2.1.symm (c3 _ _ hn2.1.symm (c2 _ _ hn2.1.symm (c1 _ _ hn2.1.symm e)))))
          rw [hD2] at this
          cases this
      refine q D2 _ sF H7 efin (by rw [List.length_map, List.length_range]; omega) ?_ ?_ hfree hd7 hP7 (fun b o hb e => c7 b o hb (c6 b o hb (s5 b o (c4 b o hb (c3 b o hb (c2 b o hb (c1 b o hb e)))))))
      · intro s' hs
        obtain ⟨k, hk, rfl⟩ := List.mem_map.mp hs
        exact nameK_is (by omega) (by omega) hcs
      · refine List.pairwise_map.mpr (List.Pairwise.imp_of_mem ?_ List.nodup_range)
        intro a b ha hb ne e
        rw [List.mem_range] at ha hb
        exact ne (nameK_inj (by omega) hbm (by omega) (by omega) e)

/-! ### pens, numbers -/
def spPen (K : PySem.W.Frag) : Sp := fun vs H Q _ => ∃ (a : Addr) (ns : List Int), vs = [.ref a] ∧ SqL K H a (ns.map V.int) ∧ ns.length ≤ 63 ∧ ∀ (pen L : Addr) (H' : Hp), H pen = none → H L = none → PenD H' pen L ⟨ns, 0, 0⟩ → Same H H' → Q (.ref pen) H'
theorem pure_pen {K : PySem.W.Frag} {w : World} : PureOk 1 (spPen K) (t_law_pen K w) 1 := by
  refine ⟨fun vs H Q E ⟨a, ns, e, _⟩ => by rw [e]; rfl, ?_⟩
  rintro vs H Q E ⟨a, ns, rfl, hS, hl, q⟩
  show t_law_pen K w _ [some (.ref a)] H
  unfold t_law_pen
  walk_at "go"
  refine g_slL hS fun p1 H1 n1 e1 s1 => ?_
  walk_at "go"
  refine g_listL (.of e1) fun p2 H2 n2 e2 s2 => ?_
  walk_at "go"
  intro p3 H3 n3 e3 s3
  have ec : cutV (ns.map V.int) none (some 63) = ns.map V.int := by
    unfold cutV
    rw [HT.sIx_none, show (63 : Int) = ((63 : Nat) : Int) from rfl, HT.sIx_nat, List.length_map, Nat.min_eq_right hl]
    show (ns.map V.int).take ns.length = _
    rw [List.take_of_length_le (by rw [List.length_map]; exact Nat.le_refl _)]
  rw [ec] at e2
  refine q p3 p2 H3 (s1.free (s2.free n3)) (s1.free n2) ⟨e3, s3 _ _ e2, by show (0 : Int) ≤ 0; decide, by show (0 : Int) ≤ 0; decide, hl⟩ (s1.trans (s2.trans s3))

def lessOf (y : Int) : Int := match atI [V.int 0, V.int 0, V.int 0, V.int 1, V.int 2, V.int 4, V.int 0] y with
  | some (.int c) => c
  | _ => 0
def numberM (s : PenS) : Int × PenS :=
  match s.draw 9 with
  | (way, s1) =>
    if way = 8 then match s1.draw (2 * (10 : Int) ^ Int.toNat 60 - 1) with
      | (v, s2) => (v - (10 : Int) ^ Int.toNat 60 + 1, s2)
    else if way = 7 then match s1.draw (2 * (10 : Int) ^ Int.toNat 31) with
      | (v, s2) => (v - (10 : Int) ^ Int.toNat 31, s2)
    else match s1.draw 9 with
      | (v, s2) => (v - lessOf way, s2)
def spNumber : Sp := fun vs H Q _ => ∃ (pen L : Addr) (s : PenS), vs = [.ref pen] ∧ PenD H pen L s ∧ ∀ (n : Int) (s' : PenS) (H' : Hp), numberM s = (n, s') → n.natAbs < 10 ^ 60 → PenD H' pen L s' → Chg pen H H' → Q (.int n) H'
theorem pure_number {K : PySem.W.Frag} {w : World} : PureOk 1 spNumber (t_law_number K w spDraw) 2 := by
  refine ⟨fun vs H Q E ⟨pen, L, _, e, _⟩ => by rw [e]; rfl, ?_⟩
  rintro vs H Q E ⟨pen, L, s, rfl, hP, q⟩
  show t_law_number K w spDraw _ [some (.ref pen), none] H
  unfold t_law_number
  walk_at "go"
  refine g_drawD hP (by decide) (by decide) fun way sA H1 dA w0 w1 hP1 c1 => ?_
  walk_at "go"
  refine g_ite (fun h8 => ?_) (fun h8 => ?_)
  · walk_at "go"
    refine g_powI ⟨by decide, by decide, by decide⟩ ?_
    refine g_mulI (.inl ⟨by decide, by decide⟩) ?_
    walk_at "go"
    refine g_drawD hP1 (by decide) (by decide) fun v sB H2 dB v0 v1 hP2 c2 => ?_
    walk_at "go"
    refine g_powI ⟨by decide, by decide, by decide⟩ ?_
    walk_at "go"
    refine q _ sB H2 (by unfold numberM; rw [dA]; dsimp only; rw [if_pos (of_decide_eq_true h8), dB]) ?_ hP2 (c1.trans c2)
    have e60 : (10 : Int) ^ (Int.toNat 60) = 10 ^ 60 := rfl
    rw [e60] at v1 ⊢
    omega
  · walk_at "go"
    refine g_ite (fun h7 => ?_) (fun h7 => ?_)
    · walk_at "go"
      refine g_powI ⟨by decide, by decide, by decide⟩ ?_
      refine g_mulI (.inl ⟨by decide, by decide⟩) ?_
      walk_at "go"
      refine g_drawD hP1 (by decide) (by decide) fun v sB H2 dB v0 v1 hP2 c2 => ?_
      walk_at "go"
      refine g_powI ⟨by decide, by decide, by decide⟩ ?_
      walk_at "go"
      refine q _ sB H2 (by unfold numberM; rw [dA]; dsimp only; rw [if_neg (of_decide_eq_false h8), if_pos (of_decide_eq_true h7), dB]) ?_ hP2 (c1.trans c2)
      have e31 : (10 : Int) ^ (Int.toNat 31) = 10 ^ 31 := rfl
      rw [e31] at v1 ⊢
      omega
    · walk_at "go"
      refine g_drawD hP1 (by decide) (by decide) fun v sB H2 dB v0 v1 hP2 c2 => ?_
      walk_at "go"
      intro p H3 np e3 s3
      walk_at "go"
      have h8' := of_decide_eq_false h8
      have h7' := of_decide_eq_false h7
      obtain ⟨u, hu, hm, _⟩ := atI_in (xs := [V.int 0, V.int 0, V.int 0, V.int 1, V.int 2, V.int 4, V.int 0]) w0 (by show way < 7; omega)
      have hu' : ∃ z : Int, u = .int z ∧ 0 ≤ z ∧ z ≤ 4 := by
        simp only [List.mem_cons, List.not_mem_nil, or_false] at hm
        rcases hm with rfl | rfl | rfl | rfl | rfl | rfl | rfl <;> exact ⟨_, rfl, by decide, by decide⟩
      obtain ⟨z, rfl, z0, z1⟩ := hu'
      refine g_ixL (.of e3) hu ?_
      walk_at "go"
      exact q _ sB H3 (by unfold numberM; rw [dA]; dsimp only; rw [if_neg h8', if_neg h7', dB]; dsimp only; unfold lessOf; rw [hu]) (by omega) (hP2.same s3) (c1.trans (c2.trans (.same s3)))

/-! ### drawing parts: the state -/
/-- what may change while a part is drawn -/
structure Fix (pen left stock b : Addr) : Prop where
  p : b ≠ pen
  l : b ≠ left
  s : b ≠ stock
def Chg3 (pen left stock : Addr) (H H' : Hp) : Prop := ∀ b o, Fix pen left stock b → H b = some o → H' b = some o
structure RoomAt (H : Hp) (pen L : Addr) (ps : PenS) (left stock : Addr) (n : Int) (st : List Str) : Prop where
  pd : PenD H pen L ps
  le : H left = some (.lst [.int n])
  sk : H stock = some (.lst (st.map V.str))
  lp : left ≠ pen
  lL : left ≠ L
  sp : stock ≠ pen
  sL : stock ≠ L
  ls : left ≠ stock
section
variable {H H' H1 : Hp} {pen L left stock b : Addr} {ps ps' : PenS} {n : Int} {st : List Str}
theorem RoomAt.pe (r : RoomAt H pen L ps left stock n st) : PenAt H pen L := r.pd.pe
theorem Chg3.refl : Chg3 pen left stock H H := fun _ _ _ e => e
theorem Chg3.trans (h : Chg3 pen left stock H H1) (h' : Chg3 pen left stock H1 H') : Chg3 pen left stock H H' := fun b o f e => h' b o f (h b o f e)
theorem Chg3.ofp (h : Chg pen H H') : Chg3 pen left stock H H' := fun b o f e => h b o f.p e
theorem Chg3.ofl (h : Chg left H H') : Chg3 pen left stock H H' := fun b o f e => h b o f.l e
theorem Chg3.ofs (h : Chg stock H H') : Chg3 pen left stock H H' := fun b o f e => h b o f.s e
theorem Chg3.same (h : Same H H') : Chg3 pen left stock H H' := fun b o _ e => h b o e
theorem RoomAt.new (r : RoomAt H pen L ps left stock n st) (hb : H b = none) : Fix pen left stock b :=
  ⟨fun e => (by obtain ⟨ns, a, x, hp, _⟩ := r.pe; rw [e, hp] at hb; cases hb), fun e => (by have := r.le; rw [← e, hb] at this; cases this), fun e => (by have := r.sk; rw [← e, hb] at this; cases this)⟩
theorem RoomAt.same (r : RoomAt H pen L ps left stock n st) (s : Same H H') : RoomAt H' pen L ps left stock n st :=
  ⟨r.pd.same s, s _ _ r.le, s _ _ r.sk, r.lp, r.lL, r.sp, r.sL, r.ls⟩
theorem RoomAt.draw (r : RoomAt H pen L ps left stock n st) (h : PenD H' pen L ps') (c : Chg pen H H') : RoomAt H' pen L ps' left stock n st :=
  ⟨h, c _ _ r.lp r.le, c _ _ r.sp r.sk, r.lp, r.lL, r.sp, r.sL, r.ls⟩
theorem RoomAt.setLeft {m : Int} (r : RoomAt H pen L ps left stock n st) (h : H' left = some (.lst [.int m])) (c : Chg left H H') : RoomAt H' pen L ps left stock m st :=
  ⟨r.pd.chg c r.lp.symm r.lL.symm, h, c _ _ r.ls.symm r.sk, r.lp, r.lL, r.sp, r.sL, r.ls⟩
theorem RoomAt.setStock {su : List Str} (r : RoomAt H pen L ps left stock n st) (h : H' stock = some (.lst (su.map V.str))) (c : Chg stock H H') : RoomAt H' pen L ps left stock n su :=
  ⟨r.pd.chg c r.sp.symm r.sL.symm, c _ _ r.ls r.le, h, r.lp, r.lL, r.sp, r.sL, r.ls⟩
/-- another object changes -/
theorem RoomAt.chg (r : RoomAt H pen L ps left stock n st) (c : Chg b H H') (f : Fix pen left stock b) (fL : L ≠ b) : RoomAt H' pen L ps left stock n st :=
  ⟨r.pd.chg c f.p.symm fL, c _ _ f.l.symm r.le, c _ _ f.s.symm r.sk, r.lp, r.lL, r.sp, r.sL, r.ls⟩
theorem RoomAt.tk {m : Int} {su : List Str} (r : RoomAt H pen L ps left stock n st) (c : Chg3 pen left stock H H') (r' : RoomAt H' pen L ps' left stock m su) : Tk H H' := fun b xs e => c b _
  ⟨fun z => (by obtain ⟨ns, a, x, hp, _⟩ := r.pe; rw [z, hp] at e; cases e), fun z => (by rw [z, r.le] at e; cases e), fun z => (by rw [z, r.sk] at e; cases e)⟩ e
end
/-- the functions that a part may name, with how many things they want -/
def WorldAt (H : Hp) (world : Addr) (W : List (Str × Nat)) : Prop := ∃ xs, H world = some (.lst xs) ∧ Tps H xs (W.map fun q => .tuple [.str q.1, .int q.2])
def WorldOk (W : List (Str × Nat)) : Prop := W.length ≤ 8 ∧ ∀ q ∈ W, isName q.1 ∧ q.2 ≤ 4
theorem WorldAt.mono {H H' : Hp} {world : Addr} {W : List (Str × Nat)} (h : WorldAt H world W) (k : Tk H H') (c : ∀ o, H world = some o → H' world = some o) : WorldAt H' world W := by
  obtain ⟨xs, e, t⟩ := h
  exact ⟨xs, c _ e, t.mono k⟩
/-- all that a part's drawing leans on -/
structure GenAt (H : Hp) (pen L : Addr) (ps : PenS) (world scope left stock : Addr) (W : List (Str × Nat)) (sc : List Str) (n : Int) (st : List Str) : Prop where
  r : RoomAt H pen L ps left stock n st
  w : WorldAt H world W
  gsc : H scope = some (.lst (sc.map V.str))
  fw : Fix pen left stock world
  fs : Fix pen left stock scope
section
variable {H H' H1 : Hp} {pen L world scope left stock b : Addr} {ps ps' : PenS} {W : List (Str × Nat)} {sc : List Str} {n : Int} {st : List Str}
theorem GenAt.same (g : GenAt H pen L ps world scope left stock W sc n st) (s : Same H H') : GenAt H' pen L ps world scope left stock W sc n st :=
  ⟨g.r.same s, g.w.mono (Same.tk s) (fun o e => s _ _ e), s _ _ g.gsc, g.fw, g.fs⟩
/-- behind anything that keeps all but the three -/
theorem GenAt.go {m : Int} {su : List Str} (g : GenAt H pen L ps world scope left stock W sc n st) (r' : RoomAt H' pen L ps' left stock m su) (c : Chg3 pen left stock H H') : GenAt H' pen L ps' world scope left stock W sc m su :=
  ⟨r', g.w.mono (g.r.tk c r') (fun o e => c _ _ g.fw e), c _ _ g.fs g.gsc, g.fw, g.fs⟩
theorem GenAt.draw (g : GenAt H pen L ps world scope left stock W sc n st) (h : PenD H' pen L ps') (c : Chg pen H H') : GenAt H' pen L ps' world scope left stock W sc n st :=
  g.go (g.r.draw h c) (.ofp c)
end
/-- the names that stand and may come: all unlike, few -/
structure NamesOk (sc st : List Str) : Prop where
  nsc : ∀ x ∈ sc, isName x
  nst : ∀ x ∈ st, isName x
  nd : st.Nodup
  few : sc.length + st.length ≤ 60
/-- what comes of a drawn part -/
structure PartOut (fs sc : List Str) (d : Nat) (n : Int) (st : List Str) (p : Part) (n' : Int) (st' : List Str) : Prop where
  ok : p.ok fs sc
  deep : p.deep ≤ d
  size : (p.size : Int) + n' ≤ 1 + n
  left : 0 ≤ n'
  names : ∃ u, st = st' ++ u ∧ p.rowNames.Nodup ∧ ∀ x ∈ p.rowNames, x ∈ u
/-! ### a leaf -/
theorem canLay_name {x : Str} (h : isName x) : PyData.canLay0 (.str x) = true := by
  rw [PyData.canLay0]
  unfold PyData.strOk
  rw [Array.all_eq_true]
  intro i hi
  have hm : x.cps[i] ∈ x.cps.toList := by simp
  have := h.2.2 _ hm
  exact decide_eq_true (by omega)
theorem shaped_list {ds : List PyData} {k : Nat} (h1 : ∀ d ∈ ds, PyData.canLay0 d = true) (h2 : ∀ d ∈ ds, PyData.depth d ≤ k) (hk : k ≤ 63) : SeqAt.shaped (.list ds) = true := by
  have a1 : ∀ ds : List PyData, (∀ d ∈ ds, PyData.canLay0 d = true) → PyData.canLayAll0 ds = true := by
    intro ds h
    induction ds with
    | nil => rfl
    | cons d ds ih => rw [PyData.canLayAll0, h d (by simp), ih fun e he => h e (by simp [he])]; rfl
  have a2 : ∀ ds : List PyData, (∀ d ∈ ds, PyData.depth d ≤ k) → PyData.depthAll ds ≤ k := by
    intro ds h
    induction ds with
    | nil => rw [PyData.depthAll]; omega
    | cons d ds ih =>
      have i1 := ih fun e he => h e (by simp [he])
      have i2 := h d (by simp)
      rw [PyData.depthAll]
      omega
  have a3 := a2 ds h2
  unfold SeqAt.shaped
  rw [show PyData.canLay0 (.list ds) = true from by rw [PyData.canLay0]; exact a1 ds h1, Bool.true_and, decide_eq_true_eq, PyData.depth]
  omega
theorem shaped_names {ss : List Str} (h : ∀ x ∈ ss, isName x) : SeqAt.shaped (.list (ss.map PyData.str)) = true :=
  shaped_list (k := 0) (fun d hd => by obtain ⟨x, hx, rfl⟩ := List.mem_map.mp hd; exact canLay_name (h x hx)) (fun d hd => by obtain ⟨x, hx, rfl⟩ := List.mem_map.mp hd; rw [PyData.depth]; omega) (by decide)
theorem shaped_world {W : List (Str × Nat)} (h : WorldOk W) : SeqAt.shaped (.list (W.map fun q => PyData.tuple [.str q.1, .int q.2])) = true :=
  shaped_list (k := 1) (fun d hd => by
      obtain ⟨x, hx, rfl⟩ := List.mem_map.mp hd
      simp only [PyData.canLay0, PyData.canLayAll0]
      have := canLay_name (h.2 x hx).1
      rw [PyData.canLay0] at this
      rw [this]; rfl)
    (fun d hd => by obtain ⟨x, hx, rfl⟩ := List.mem_map.mp hd; simp [PyData.depth, PyData.depthAll]) (by decide)
theorem shaped_nil : SeqAt.shaped (.list []) = true := shaped_names (ss := []) (by simp)
theorem eqv_nil {ds : List PyData} : PyData.eqv (.list ds) (.list []) = ds.isEmpty := by
  cases ds <;> rfl
def atW (W : List (Str × Nat)) (v : Int) : Str × Nat := (W[v.toNat]?).getD ("", 0)
def leafM (W : List (Str × Nat)) (sc : List Str) (want : Str) (ps : PenS) : Part × PenS :=
  match ps.draw 8 with
  | (way, s1) =>
    if sc ≠ [] ∧ 2 < way then match s1.draw (sc.length : Int) with
      | (v, s2) => (.name ((sc[v.toNat]?).getD ""), s2)
    else if W ≠ [] ∧ want = "any" ∧ way = 0 then match s1.draw (W.length : Int) with
      | (v, s2) => (.fn (atW W v).1, s2)
    else match numberM s1 with
      | (m, s2) => (.num m, s2)
def spLeaf : Sp := fun vs H Q _ => ∃ (pen L : Addr) (ps : PenS) (world scope left stock : Addr) (W : List (Str × Nat)) (sc : List Str) (n : Int) (st : List Str) (want : Str), vs = [.ref pen, .ref world, .ref scope, .str want] ∧
  GenAt H pen L ps world scope left stock W sc n st ∧ WorldOk W ∧ NamesOk sc st ∧ 0 ≤ n ∧
  ∀ (v : V) (p : Part) (ps' : PenS) (H' : Hp), leafM W sc want ps = (p, ps') → Tp H' v p.data → GenAt H' pen L ps' world scope left stock W sc n st → PartOut (W.map (·.1)) sc 1 n st p n st → Chg3 pen left stock H H' → Q v H'
theorem tp_num {H : Hp} {a : Addr} {n : Int} (h : H a = some (.tup [.str "number", .int n])) : Tp H (.ref a) (Part.num n).data := .tup h (.cons (.str _) (.one (.int n)))
theorem tp_name {H : Hp} {a : Addr} {x : Str} (h : H a = some (.tup [.str "name", .str x])) : Tp H (.ref a) (Part.name x).data := .tup h (.cons (.str _) (.one (.str x)))
theorem tp_fn {H : Hp} {a : Addr} {x : Str} (h : H a = some (.tup [.str "fun", .str x])) : Tp H (.ref a) (Part.fn x).data := .tup h (.cons (.str _) (.one (.str x)))
theorem pure_leaf {K : PySem.W.Frag} {w : World} : PureOk 4 spLeaf (t_law_leaf K w spDraw spNumber) 5 := by
  refine ⟨fun vs H Q E ⟨_, _, _, _, _, _, _, _, _, _, _, _, e, _⟩ => by rw [e]; rfl, ?_⟩
  rintro vs H Q E ⟨pen, L, ps, world, scope, left, stock, W, sc, n, st, want, rfl, g, hW, hN, hn, q⟩
  show t_law_leaf K w _ _ _ [some (.ref pen), some (.ref world), some (.ref scope), some (.str want), none] H
  unfold t_law_leaf
  walk_at "go"
  refine g_drawD g.r.pd (by decide) (by decide) fun way sA H1 dA w0 w1 hP1 c1 => ?_
  have g1 := g.draw hP1 c1
  walk_at "go"
  intro a H2 na ea s2
  have g2 := g1.same s2
  have c2 : Chg3 pen left stock H H2 := Chg3.trans (.ofp c1) (.same s2)
  refine g_neD (.lst (.of g2.gsc) (Tps.dp (Tps.strs sc))) (.lst (.of ea) .nil) (shaped_names hN.nsc) shaped_nil ?_
  rw [eqv_nil]
  walk_at "go"
  have outN : ∀ p : Part, p.ok (W.map (·.1)) sc → p.deep = 1 → p.size = 1 → p.rowNames = [] → PartOut (W.map (·.1)) sc 1 n st p n st := fun p h1 h2 h3 h4 =>
    ⟨h1, by omega, by rw [h3]; omega, hn, [], by simp, by rw [h4]; exact List.nodup_nil, by rw [h4]; simp⟩
  by_cases hnm : sc ≠ [] ∧ 2 < way
  · have hsc : 0 < sc.length := List.length_pos_iff.mpr hnm.1
    refine g_T (by have := hnm.1; cases sc with | nil => exact absurd rfl this | cons x l => rfl) ?_
    walk_at "go"
    refine g_T (decide_eq_true hnm.2) ?_
    walk_at "go"
    refine g_lenL (.of g2.gsc) ?_
    walk_at "go"
    refine g_drawD g2.r.pd (by rw [List.length_map]; omega) (by rw [List.length_map]; have := hN.few; omega) fun v sB H3 dB v0 v1 hP3 c3 => ?_
    have g3 := g2.draw hP3 c3
    obtain ⟨u, h1, h2, h3⟩ := atI_in (xs := sc.map V.str) v0 v1
    rw [List.getElem?_map] at h3
    obtain ⟨x, hx3, rfl⟩ := Option.map_eq_some_iff.mp h3
    have hx := List.mem_of_getElem? hx3
    refine g_ixL (.of g3.gsc) h1 ?_
    walk_at "go"
    intro p H4 np ep s4
    rw [List.length_map] at dB
    exact q _ (.name x) sB H4 (by unfold leafM; rw [dA]; dsimp only; rw [if_pos hnm, dB]; dsimp only; rw [hx3]; rfl) (tp_name ep) (g3.same s4) (outN _ ⟨hx, hN.nsc x hx⟩ rfl rfl rfl) (c2.trans (.trans (.ofp c3) (.same s4)))
  refine g_cut (B := ?B) ?f ?b
  case f =>
    intro tail
    refine g_ite (fun hne => ?_) (fun _ => ?_)
    · walk_at "go"
      refine g_F (decide_eq_false fun h => hnm ⟨by rintro rfl; simp at hne, h⟩) ?_
      exact tail.out
    · refine g_F rfl ?_
      exact tail.out
  case b =>
    walk_at "go"
    intro a4 H4 na4 ea4 s4
    have g4 := g2.same s4
    have c4 : Chg3 pen left stock H H4 := c2.trans (.same s4)
    obtain ⟨wx, hw, tw⟩ := g4.w
    refine g_neD (.lst (.of hw) (Tps.dp tw)) (.lst (.of ea4) .nil) (shaped_world hW) shaped_nil ?_
    rw [eqv_nil]
    walk_at "go"
    by_cases hfn : W ≠ [] ∧ want = "any" ∧ way = 0
    · have hWl : 0 < W.length := List.length_pos_iff.mpr hfn.1
      refine g_T (by have := hfn.1; cases W with | nil => exact absurd rfl this | cons x l => rfl) ?_
      walk_at "go"
      refine g_T (decide_eq_true hfn.2.1) ?_
      walk_at "go"
      refine g_T (decide_eq_true hfn.2.2) ?_
      walk_at "go"
      have hl := tw.length
      rw [List.length_map] at hl
      refine g_lenL (.of hw) ?_
      walk_at "go"
      refine g_drawD g4.r.pd (by omega) (by have := hW.1; omega) fun v sB H5 dB v0 v1 hP5 c5 => ?_
      have g5 := g4.draw hP5 c5
      obtain ⟨wx5, hw5, tw5⟩ := g5.w
      have ew : wx5 = wx := by
        have := c5 _ _ g.fw.p hw
        rw [hw5] at this
        cases this
        rfl
      subst ew
      obtain ⟨u, h1, _, h3⟩ := atI_in (xs := wx5) v0 v1
      obtain ⟨d, hd, tu⟩ := tw5.get h3
      rw [List.getElem?_map] at hd
      obtain ⟨⟨f, k⟩, hf, rfl⟩ := Option.map_eq_some_iff.mp hd
      have hfW := List.mem_of_getElem? hf
      rw [hl] at dB
      refine g_ixL (.of hw5) h1 ?_
      cases tu with
      | tup et rt =>
        cases rt with
        | cons t1 _ =>
          cases t1
          refine g_ixT (.of et) (atI_of (by decide) rfl) ?_
          walk_at "go"
          intro p H6 np ep s6
          exact q _ (.fn f) sB H6 (by unfold leafM; rw [dA]; dsimp only; rw [if_neg hnm, if_pos hfn, dB]; dsimp only; rw [atW, hf]; rfl) (tp_fn ep) (g5.same s6) (outN _ ⟨List.mem_map.mpr ⟨(f, k), hfW, rfl⟩, (hW.2 _ hfW).1⟩ rfl rfl rfl) (c4.trans (.trans (.ofp c5) (.same s6)))
    refine g_cut (B := ?B2) ?f2 ?b2
    case f2 =>
      intro tail
      refine g_ite (fun hne => ?_) (fun _ => ?_)
      · walk_at "go"
        refine g_ite (fun ha => ?_) (fun _ => ?_)
        · walk_at "go"
          refine g_F (decide_eq_false fun h => hfn ⟨by rintro rfl; simp at hne, of_decide_eq_true ha, h⟩) ?_
          exact tail.out
        · refine g_F rfl ?_
          exact tail.out
      · refine g_F rfl ?_
        exact tail.out
    case b2 =>
      walk_at "go"
      refine ⟨pen, L, sA, rfl, g4.r.pd, fun m sB H5 dB hm hP5 c5 => ?_⟩
      walk_at "go"
      intro p H6 np ep s6
      exact q _ (.num m) sB H6 (by unfold leafM; rw [dA]; dsimp only; rw [if_neg hnm, if_neg hfn, dB]) (tp_num ep) ((g4.draw hP5 c5).same s6) (outN _ hm rfl rfl rfl) (c4.trans (.trans (.ofp c5) (.same s6)))

/-! ### names that are used up -/
def Used (st st' A : List Str) : Prop := ∃ u, st = st' ++ u ∧ A.Nodup ∧ ∀ x ∈ A, x ∈ u
section
variable {st st1 st2 A B : List Str}
theorem Used.refl : Used st st [] := ⟨[], by simp, List.nodup_nil, by simp⟩
theorem Used.app (h : Used st st1 A) (h2 : Used st1 st2 B) (nd : st.Nodup) : Used st st2 (A ++ B) := by
  obtain ⟨u, rfl, n1, s1⟩ := h
  obtain ⟨v, rfl, n2, s2⟩ := h2
  refine ⟨v ++ u, by simp, List.nodup_append.mpr ⟨n1, n2, fun a ha b hb e => ?_⟩, fun x hx => ?_⟩
  · subst e
    have h1 := s1 _ ha
    have h2 := s2 _ hb
    exact (List.nodup_append.mp nd).2.2 a (by simp [h2]) a h1 rfl
  · rcases List.mem_append.mp hx with h | h
    · exact List.mem_append.mpr (.inr (s1 x h))
    · exact List.mem_append.mpr (.inl (s2 x h))
theorem Used.swap (h : Used st st1 A) (h2 : Used st1 st2 B) (nd : st.Nodup) : Used st st2 (B ++ A) := by
  obtain ⟨u, e, n, s⟩ := h.app h2 nd
  refine ⟨u, e, ?_, fun x hx => s x (by rw [List.mem_append] at hx ⊢; exact hx.symm)⟩
  rw [List.nodup_append] at n ⊢
  exact ⟨n.2.1, n.1, fun a ha b hb e => n.2.2 b hb a ha e.symm⟩
theorem Used.left (h : Used st st1 A) : Used st st1 [] := by
  obtain ⟨u, e, _, _⟩ := h
  exact ⟨u, e, List.nodup_nil, by simp⟩
/-- the later ones are not used -/
theorem Used.fst (h : Used st st1 A) (h2 : Used st1 st2 B) : Used st st2 A := by
  obtain ⟨u, rfl, n1, s1⟩ := h
  obtain ⟨v, rfl, n2, s2⟩ := h2
  exact ⟨v ++ u, by simp, n1, fun x hx => List.mem_append.mpr (.inr (s1 x hx))⟩
theorem Used.len (h : Used st st1 A) : st1.length ≤ st.length := by
  obtain ⟨u, rfl, _, _⟩ := h
  rw [List.length_append]
  omega
theorem NamesOk.go {sc : List Str} (n : NamesOk sc st) (h : Used st st1 A) : NamesOk sc st1 := by
  obtain ⟨u, rfl, _, _⟩ := h
  exact ⟨n.nsc, fun x hx => n.nst x (List.mem_append.mpr (.inl hx)), (List.nodup_append.mp n.nd).1, by have := n.few; rw [List.length_append] at this; omega⟩
end
/-! ### room -/
def RoomL (H : Hp) (room left stock : Addr) (D : Int) : Prop := H room = some (.lst [.int D, .ref left, .ref stock])
def spFits : Sp := fun vs H Q _ => ∃ (pen L : Addr) (ps : PenS) (room left stock : Addr) (D n many : Int) (st : List Str), vs = [.ref room, .int many] ∧ RoomAt H pen L ps left stock n st ∧ RoomL H room left stock D ∧
  (n < many → Q (.bl false) H) ∧ (many ≤ n → ∀ H', RoomAt H' pen L ps left stock (n - many) st → Chg left H H' → Q (.bl true) H')
theorem pure_fits {K : PySem.W.Frag} {w : World} : PureOk 2 spFits (t_law_fits K w) 2 := by
  refine ⟨fun vs H Q E ⟨_, _, _, _, _, _, _, _, _, _, e, _⟩ => by rw [e]; rfl, ?_⟩
  rintro vs H Q E ⟨pen, L, ps, room, left, stock, D, n, many, st, rfl, r, hr, q1, q2⟩
  show t_law_fits K w _ [some (.ref room), some (.int many)] H
  unfold t_law_fits
  unfold RoomL at hr
  have hl := r.le
  walk_at "go"
  refine g_ite (fun h => ?_) (fun h => ?_)
  · walk_at "go"
    exact q1 (of_decide_eq_true h)
  · walk_at "go"
    refine g_setL hl rfl fun H' e1 c1 => ?_
    walk_at "go"
    exact q2 (by have := of_decide_eq_false h; omega) H' (r.setLeft e1 c1) c1
/-! ### parts, calls, lets: what they lean on, what they tell -/
structure PartPre (H : Hp) (pen L : Addr) (ps : PenS) (world scope room left stock : Addr) (W : List (Str × Nat)) (sc : List Str) (D n : Int) (st : List Str) (want : Str) : Prop where
  g : GenAt H pen L ps world scope left stock W sc n st
  w : WorldOk W
  nm : NamesOk sc st
  n0 : 0 ≤ n
  rm : RoomL H room left stock D
  fr : Fix pen left stock room
  d0 : 0 ≤ D
  wt : want ∈ [("number" : Str), "pair", "any"]
/-- what is drawn with: the pen, how many parts are left, the names -/
structure GS where
  s : PenS
  n : Int
  st : List Str
abbrev PartF := List Str → Int → Str → GS → Part × GS
def PartPost (H : Hp) (pen L world scope left stock : Addr) (W : List (Str × Nat)) (sc : List Str) (d : Nat) (n : Int) (st : List Str) (F : Part × GS) (Q : VK) : Prop :=
  ∀ (v : V) (p : Part) (ps' : PenS) (n' : Int) (st' : List Str) (H' : Hp), F = (p, ⟨ps', n', st'⟩) → Tp H' v p.data → GenAt H' pen L ps' world scope left stock W sc n' st' → PartOut (W.map (·.1)) sc d n st p n' st' → Chg3 pen left stock H H' → Q v H'
/-- the calls -/
def kindAt (xs : List V) (y : Int) : Str := match atI xs y with
  | some (.str x) => x
  | _ => ""
def intAt (xs : List V) (y : Int) : Int := match atI xs y with
  | some (.int x) => x
  | _ => 0
def givesM (F : Str → GS → Part × GS) (f : Part) : Nat → GS → Part × GS
  | 0, g => (f, g)
  | i + 1, g => match givesM F f i g with
    | (p, g1) => match g1.s.draw 3 with
      | (y, s) => match F (kindAt [V.str "number", V.str "any"] (y / 2)) ⟨s, g1.n, g1.st⟩ with
        | (p2, g2) => (.two .give p p2, g2)
theorem givesM_succ {F : Str → GS → Part × GS} {f p p2 : Part} {i : Nat} {g g1 g2 : GS} {y : Int} {s : PenS} {wt : Str} (h1 : givesM F f i g = (p, g1)) (h2 : g1.s.draw 3 = (y, s)) (h3 : atI [V.str "number", V.str "any"] (y / 2) = some (.str wt)) (h4 : F wt ⟨s, g1.n, g1.st⟩ = (p2, g2)) :
    givesM F f (i + 1) g = (.two .give p p2, g2) := by
  have e : kindAt [V.str "number", V.str "any"] (y / 2) = wt := by unfold kindAt; rw [h3]
  rw [givesM, h1]; dsimp only
  rw [h2]; dsimp only
  rw [e, h4]
def leafG (W : List (Str × Nat)) (sc : List Str) (want : Str) (g : GS) : Part × GS := match leafM W sc want g.s with
  | (p, s) => (p, ⟨s, g.n, g.st⟩)
def callM (F : PartF) (W : List (Str × Nat)) (sc : List Str) (D : Int) (want : Str) (g : GS) : Part × GS :=
  match g.s.draw (W.length : Int) with
  | (v, s1) => match s1.draw 8 with
    | (y, s3) =>
      let many := (max 0 (((atW W v).2 : Int) + intAt [V.int 0, V.int 0, V.int 0, V.int 0, V.int 0, V.int 0, V.int 1, V.int (-1)] y)).toNat
      if g.n < 2 * (many : Int) then leafG W sc want ⟨s3, g.n, g.st⟩
      else givesM (F sc (D - many)) (.fn (atW W v).1) many ⟨s3, g.n - 2 * (many : Int), g.st⟩
/-- the lets -/
def rowsM (F : Str → GS → Part × GS) (ns : List Str) : Nat → GS → Rows × GS
  | 0, g => (.nil, g)
  | i + 1, g => match rowsM F ns i g with
    | (r, g1) => match g1.s.draw 3 with
      | (y, s) => match F (kindAt [V.str "number", V.str "pair", V.str "any"] y) ⟨s, g1.n, g1.st⟩ with
        | (p, g2) => (r.app (.cons ((ns[i]?).getD "") p .nil), g2)
theorem rowsM_succ {F : Str → GS → Part × GS} {ns : List Str} {r : Rows} {p : Part} {i : Nat} {g g1 g2 : GS} {y : Int} {s : PenS} {kd nm : Str} (h1 : rowsM F ns i g = (r, g1)) (h2 : g1.s.draw 3 = (y, s)) (h3 : atI [V.str "number", V.str "pair", V.str "any"] y = some (.str kd)) (h4 : F kd ⟨s, g1.n, g1.st⟩ = (p, g2)) (h5 : ns[i]? = some nm) :
    rowsM F ns (i + 1) g = (r.app (.cons nm p .nil), g2) := by
  have e : kindAt [V.str "number", V.str "pair", V.str "any"] y = kd := by unfold kindAt; rw [h3]
  rw [rowsM, h1]; dsimp only
  rw [h2]; dsimp only
  rw [e, h4]; dsimp only
  rw [h5]
  rfl
def letM (F : PartF) (W : List (Str × Nat)) (sc : List Str) (D : Int) (want : Str) (g : GS) : Part × GS :=
  match g.s.draw 7 with
  | (y, s2) =>
    let many := (intAt [V.int 1, V.int 1, V.int 2, V.int 1, V.int 2, V.int 3, V.int 4] y).toNat
    if g.st.length < many ∨ g.n < (many : Int) + 1 then leafG W sc want ⟨s2, g.n, g.st⟩
    else
      let ns := g.st.reverse.take many
      match rowsM (F (sc ++ ns) D) ns many ⟨s2, g.n - ((many : Int) + 1), g.st.take (g.st.length - many)⟩ with
      | (r, g1) => match F (sc ++ ns) D want g1 with
        | (p, g2) => (.letp r p, g2)
/-! ### a part by its word -/
def kinds7 : List Str := ["op", "when", "side", "let", "call", "leaf", "pair"]
def words0 : List (Key × V) := mergeK [] [(.inr "number", .str "op op op op op op when when side let call call call call leaf leaf")]
def words1 : List (Key × V) := putK words0 (.inr "pair") (.str "pair pair pair pair when when side side let let call call call op leaf pair")
def words2 : List (Key × V) := putK words1 (.inr "any") (.str "op op pair pair pair when when side side let let call call call leaf leaf")
def wordsOf (x : Str) : Str := match valV words2 (Sum.inr x) with
  | some (.str s) => s
  | _ => ""
theorem words_at : ∀ x ∈ [("number" : Str), "pair", "any"], valV words2 (Sum.inr x) = some (.str (wordsOf x)) ∧ (Txt.split (wordsOf x) " ").length = 16 ∧ (wordsOf x).length + 2 ≤ 100 ∧ ∀ y ∈ Txt.split (wordsOf x) " ", y ∈ kinds7 := by decide +kernel
def kv4 : List (Key × V) := [(.inr "side", .int 1), (.inr "pair", .int 2), (.inr "when", .int 3), (.inr "op", .int 2)]
def manyOf (word : Str) : Int := match valV (mergeK [] kv4) (Sum.inr word) with
  | some (.int m) => m
  | _ => 0
def want2 (word want : Str) : Str := match valV (mergeK [] [(Sum.inr ("pair" : Str), V.str "any"), (.inr "when", .str want), (.inr "op", .str "number")]) (Sum.inr word) with
  | some (.str s) => s
  | _ => ""
def k1At (y : Int) : K1 := if y = 0 then .left else .right
def k2At (y : Int) : K2 := if y = 0 then .plus else if y = 1 then .less else if y = 2 then .times else .below
/-- the kinds that are drawn within -/
def kindM (F : PartF) (sc : List Str) (D : Int) (want word : Str) (g : GS) : Part × GS :=
  if word = "side" then match g.s.draw 2 with
    | (y, s) => match F sc (D - 1) "pair" ⟨s, g.n, g.st⟩ with
      | (p, g1) => (.one (k1At y) p, g1)
  else match F sc (D - 1) (if word = "pair" then "any" else "number") g with
    | (p1, g1) => match F sc (D - 1) (want2 word want) g1 with
      | (p2, g2) =>
        if word = "pair" then (.two .pair p1 p2, g2)
        else if word = "when" then match F sc (D - 1) want g2 with
          | (p3, g3) => (.whn p1 p2 p3, g3)
        else match g2.s.draw 4 with
          | (y, s) => (.two (k2At y) p1 p2, ⟨s, g2.n, g2.st⟩)
def partM (W : List (Str × Nat)) : Nat → PartF
  | 0, _, _, _, g => (.num 0, g)
  | m + 1, sc, D, want, g => match g.s.draw 16 with
    | (y, s1) =>
      let word := kindAt ((Txt.split (wordsOf want) " ").map V.str) y
      if D < 1 ∨ word = "leaf" ∨ (word = "call" ∧ (W = [] ∨ D < 6)) then leafG W sc want ⟨s1, g.n, g.st⟩
      else if word = "call" then callM (partM W m) W sc (D - 1) want ⟨s1, g.n, g.st⟩
      else if word = "let" then letM (partM W m) W sc (D - 1) want ⟨s1, g.n, g.st⟩
      else if g.n < manyOf word then leafG W sc want ⟨s1, g.n, g.st⟩
      else kindM (partM W m) sc D want word ⟨s1, g.n - manyOf word, g.st⟩
def spPart (m : Nat) : Sp := fun vs H Q _ => ∃ (pen L : Addr) (ps : PenS) (world scope room left stock : Addr) (W : List (Str × Nat)) (sc : List Str) (D n : Int) (st : List Str) (want : Str), vs = [.ref pen, .ref world, .ref scope, .ref room, .str want] ∧
  PartPre H pen L ps world scope room left stock W sc D n st want ∧ D.toNat < m ∧ PartPost H pen L world scope left stock W sc (D.toNat + 1) n st (partM W m sc D want ⟨ps, n, st⟩) Q
/-- a let's, its room one less deep -/
def spLet (m : Nat) : Sp := fun vs H Q _ => ∃ (pen L : Addr) (ps : PenS) (world scope room left stock : Addr) (W : List (Str × Nat)) (sc : List Str) (D n : Int) (st : List Str) (want : Str), vs = [.ref pen, .ref world, .ref scope, .ref room, .str want] ∧
  PartPre H pen L ps world scope room left stock W sc D n st want ∧ D.toNat < m ∧ PartPost H pen L world scope left stock W sc (D.toNat + 2) n st (letM (partM W m) W sc D want ⟨ps, n, st⟩) Q
def spCallP (m : Nat) : Sp := fun vs H Q _ => ∃ (pen L : Addr) (ps : PenS) (world scope room left stock : Addr) (W : List (Str × Nat)) (sc : List Str) (D n : Int) (st : List Str) (want : Str), vs = [.ref pen, .ref world, .ref scope, .ref room, .str want] ∧
  PartPre H pen L ps world scope room left stock W sc D n st want ∧ D.toNat < m ∧ 5 ≤ D ∧ W ≠ [] ∧ PartPost H pen L world scope left stock W sc (D.toNat + 2) n st (callM (partM W m) W sc D want ⟨ps, n, st⟩) Q
theorem PartOut.leaf {fs sc : List Str} {d : Nat} {n n1 : Int} {st st' : List Str} {p : Part} (h : PartOut fs sc 1 n st p n1 st') (hd : 1 ≤ d) : PartOut fs sc d n st p n1 st' := ⟨h.ok, Nat.le_trans h.deep hd, h.size, h.left, h.names⟩
section
variable {H H' : Hp} {pen L world scope room left stock : Addr} {ps ps' : PenS} {W : List (Str × Nat)} {sc : List Str} {D n : Int} {st : List Str} {want : Str}
theorem PartPre.leafArgs (h : PartPre H pen L ps world scope room left stock W sc D n st want) {d : Nat} {Q : VK} {E : XK} (hd : 1 ≤ d) (q : PartPost H pen L world scope left stock W sc d n st (leafG W sc want ⟨ps, n, st⟩) Q) :
    spLeaf ([.ref pen, .ref world, .ref scope, .str want] ++ []) H Q E := ⟨pen, L, ps, world, scope, left, stock, W, sc, n, st, want, rfl, h.g, h.w, h.nm, h.n0, fun v p ps' H' e t g o c => q v p ps' n st H' (by unfold leafG; dsimp only; rw [e]) t g (o.leaf hd) c⟩
theorem PartPre.go {n' : Int} {st' A : List Str} (h : PartPre H pen L ps world scope room left stock W sc D n st want) (g : GenAt H' pen L ps' world scope left stock W sc n' st') (c : Chg3 pen left stock H H') (u : Used st st' A) (h0 : 0 ≤ n') :
    PartPre H' pen L ps' world scope room left stock W sc D n' st' want := ⟨g, h.w, h.nm.go u, h0, c _ _ h.fr h.rm, h.fr, h.d0, h.wt⟩
end
theorem pure_callp {K : PySem.W.Frag} {w : World} {m : Nat} : PureOk 5 (spCallP m) (t_law_call K w spDraw spFits spLeaf (spPart m)) 11 := by
  refine ⟨fun vs H Q E ⟨_, _, _, _, _, _, _, _, _, _, _, _, _, _, e, _⟩ => by rw [e]; rfl, ?_⟩
  rintro vs H Q E ⟨pen, L, ps, world, scope, room, left, stock, W, sc, D, n, st, want, rfl, h, hD, hD5, hW0, q⟩
  show t_law_call K w _ _ _ _ _ [some (.ref pen), some (.ref world), some (.ref scope), some (.ref room), some (.str want), none, none, none, none, none, none] H
  unfold t_law_call
  walk_at "go"
  obtain ⟨wx, hw, tw⟩ := h.g.w
  have hl := tw.length
  rw [List.length_map] at hl
  have hWl : 0 < W.length := by
    cases W with
    | nil => exact absurd rfl hW0
    | cons x l => simp
  refine g_lenL (.of hw) ?_
  walk_at "go"
  rw [hl]
  refine g_drawD h.g.r.pd (by omega) (by have := h.w.1; omega) fun v sA H1 dA v0 v1 hP1 c1 => ?_
  have g1 := h.g.draw hP1 c1
  have hw1 := c1 _ _ h.g.fw.p hw
  have tw1 := tw.mono (h.g.r.tk (.ofp c1) g1.r)
  obtain ⟨u, hu, _, hu3⟩ := atI_in (xs := wx) v0 (by omega)
  obtain ⟨d, hd, tu⟩ := tw1.get hu3
  rw [List.getElem?_map] at hd
  obtain ⟨⟨f, k⟩, hf, rfl⟩ := Option.map_eq_some_iff.mp hd
  have hfW := List.mem_of_getElem? hf
  have eW : atW W v = (f, k) := by rw [atW, hf]; rfl
  refine g_ixL (.of hw1) hu ?_
  cases tu with
  | tup et rt =>
  cases rt with
  | cons t1 rt =>
  cases t1
  cases rt with
  | cons t2 rt =>
  cases t2
  cases rt
  refine ⟨_, _, rfl, .of et, rfl, _, _, rfl, ?_⟩
  walk_at "go"
  refine ⟨_, _, rfl, ?_⟩
  walk_at "go"
  refine ⟨rfl, ?_⟩
  walk_at "go"
  intro a2 H2 na2 ea2 s2
  have g2 := g1.same s2
  walk_at "go"
  refine g_drawD g2.r.pd (by decide) (by decide) fun y sC H3 dC y0 y1 hP3 c3 => ?_
  have g3 := g2.draw hP3 c3
  have c3' : Chg3 pen left stock H H3 := Chg3.trans (.ofp c1) (.trans (.same s2) (.ofp c3))
  obtain ⟨z, hz, hz1, hz2⟩ : ∃ z : Int, atI [V.int 0, V.int 0, V.int 0, V.int 0, V.int 0, V.int 0, V.int 1, V.int (-1)] y = some (.int z) ∧ -1 ≤ z ∧ z ≤ 1 := by
    obtain ⟨v, h1, h2, _⟩ := atI_in (xs := [V.int 0, V.int 0, V.int 0, V.int 0, V.int 0, V.int 0, V.int 1, V.int (-1)]) y0 y1
    simp only [List.mem_cons, List.not_mem_nil, or_false] at h2
    rcases h2 with rfl | rfl | rfl | rfl | rfl | rfl | rfl | rfl <;> exact ⟨_, h1, by decide, by decide⟩
  refine g_ixL (.of (c3 _ _ (g1.r.new na2).p ea2)) hz ?_
  walk_at "go"
  have hk : (k : Int) ≤ 4 := by have := (h.w.2 _ hfW).2; omega
  obtain ⟨many, hmany, hm0, hm5⟩ : ∃ many : Nat, max 0 ((k : Int) + z) = (many : Int) ∧ 0 ≤ many ∧ many ≤ 5 := ⟨(max 0 ((k : Int) + z)).toNat, by omega, by omega, by omega⟩
  rw [hmany]
  have ecall : callM (partM W m) W sc D want ⟨ps, n, st⟩ = if n < 2 * (many : Int) then leafG W sc want ⟨sC, n, st⟩ else givesM (partM W m sc (D - many)) (.fn f) many ⟨sC, n - 2 * (many : Int), st⟩ := by
    have ez : intAt [V.int 0, V.int 0, V.int 0, V.int 0, V.int 0, V.int 0, V.int 1, V.int (-1)] y = z := by unfold intAt; rw [hz]
    unfold callM
    dsimp only
    rw [dA]; dsimp only
    rw [dC]; dsimp only
    rw [eW, ez, hmany, Int.toNat_natCast]
  refine g_mulI (.inl ⟨by decide, by decide⟩) ?_
  walk_at "go"
  have hroom3 := c3' _ _ h.fr h.rm
  have pre3 : PartPre H3 pen L sC world scope room left stock W sc D n st want := h.go g3 c3' .refl h.n0
  refine ⟨pen, L, sC, room, left, stock, D, n, 2 * (many : Int), st, rfl, g3.r, hroom3, fun hfit => ?_, fun hfit H4 r4 c4 => ?_⟩
  · walk_at "go"
    refine g_T rfl ?_
    walk_at "go"
    exact pre3.leafArgs (by omega) fun v p ps' n' st' H' e t g o c => q v p ps' n' st' H' (by rw [ecall, if_pos hfit]; exact e) t g o (c3'.trans c)
  · walk_at "go"
    refine g_F rfl ?_
    walk_at "go"
    intro a5 H5 na5 ea5 s5
    have g4 := g3.go r4 (.ofl c4)
    have c5 : Chg3 pen left stock H H5 := c3'.trans (.trans (.ofl c4) (.same s5))
    have g5 := g4.same s5
    have hroom5 := c5 _ _ h.fr h.rm
    unfold RoomL at hroom5
    walk_at "go"
    intro room2 H6 nr er s6
    have g6 := g5.same s6
    have c6 := c5.trans (.same s6)
    have fr2 := g5.r.new nr
    walk_at "go"
    refine g_isrng (by omega) (by omega) ?_
    refine for_any many (fun i σ H' => ∃ (x : Option V) (v : V) (p : Part) (ps' : PenS) (n' : Int) (st' : List Str), givesM (partM W m sc (D - many)) (.fn f) i ⟨sC, n - 2 * (many : Int), st⟩ = (p, ⟨ps', n', st'⟩) ∧ σ = [some (.ref pen), some (.ref world), some (.ref scope), some (.ref room), some (.str want), some (.str f), some (.int k), some (.int many), some v, some (.ref room2), x] ∧
        Tp H' v p.data ∧ GenAt H' pen L ps' world scope left stock W sc n' st' ∧ p.ok (W.map (·.1)) sc ∧ p.deep ≤ i + (D - many).toNat + 1 ∧ (p.size : Int) + n' ≤ 1 + (n - 2 * many) + 2 * i ∧ 0 ≤ n' ∧ Used st st' p.rowNames ∧ Chg3 pen left stock H6 H')
      ⟨none, .ref a5, .fn f, sC, n - 2 * many, st, rfl, rfl, tp_fn (s6 _ _ ea5), g6, ⟨List.mem_map.mpr ⟨(f, k), hfW, rfl⟩, (h.w.2 _ hfW).1⟩, by show 1 ≤ _; omega, by show ((1 : Nat) : Int) + _ ≤ _; omega, by omega, .refl, .refl⟩
      (fun i σ H' hi _ => hi) (fun σ H' _ => Nat.le_refl _) ?_ ?_
    · rintro i x σ _ H7 hi ⟨x0, v, p, ps', n', st', eG, rfl, tv, g7, ok7, d7, z7, n7, u7, c7⟩ ⟨rfl, rfl⟩
      walk_at "go"
      intro a8 H8 na8 ea8 s8
      walk_at "go"
      have g8 := g7.same s8
      refine g_drawD g8.r.pd (by decide) (by decide) fun y sD H9 dD y0 y1 hP9 c9 => ?_
      have g9 := g8.draw hP9 c9
      walk_at "go"
      refine g_divI ⟨by decide, by decide⟩ ?_
      obtain ⟨wt, hwt, hwm⟩ : ∃ wt : Str, atI [V.str "number", V.str "any"] (y / 2) = some (.str wt) ∧ wt ∈ [("number" : Str), "pair", "any"] := by
        obtain ⟨v, h1, h2, _⟩ := atI_in (xs := [V.str "number", V.str "any"]) (i := y / 2) (by omega) (by show y / 2 < 2; omega)
        simp only [List.mem_cons, List.not_mem_nil, or_false] at h2
        rcases h2 with rfl | rfl <;> exact ⟨_, h1, by simp⟩
      refine g_ixL (.of (c9 _ _ (g7.r.new na8).p ea8)) hwt ?_
      walk_at "go"
      have c9' : Chg3 pen left stock H7 H9 := .trans (.same s8) (.ofp c9)
      have hr9 : RoomL H9 room2 left stock (D - many) := c9' _ _ fr2 (c7 _ _ fr2 er)
      refine ⟨pen, L, sD, world, scope, room2, left, stock, W, sc, D - many, n', st', wt, rfl, ⟨g9, h.w, h.nm.go u7, n7, hr9, fr2, by omega, hwm⟩, by omega, fun v2 p2 ps2 n2 st2 H10 e2 t2 g10 o10 c10 => ?_⟩
      walk_at "go"
      intro a11 H11 na11 ea11 s11
      walk_at "go"
      have c10' := c9'.trans c10
      refine ⟨_, .ref a11, .two .give p p2, ps2, n2, st2, givesM_succ eG dD hwt e2, rfl, ?_, g10.same s11, ⟨ok7, o10.ok⟩, ?_, ?_, o10.left, u7.app o10.names h.nm.nd, c7.trans (c10'.trans (.same s11))⟩
      · have tv' := (tv.mono (g7.r.tk c10' g10.r)).mono (Same.tk s11)
        exact .tup ea11 (.cons (.str _) (.cons tv' (.one (t2.mono (Same.tk s11)))))
      · have := o10.deep
        show 1 + max _ _ ≤ _
        omega
      · have := o10.size
        show ((1 + (p.size + p2.size) : Nat) : Int) + _ ≤ _
        omega
    · rintro σ H7 ⟨x0, v, p, ps', n', st', eG, rfl, tv, g7, ok7, d7, z7, n7, u7, c7⟩
      walk_at "go"
      exact q v p ps' n' st' H7 (by rw [ecall, if_neg (Int.not_lt.mpr hfit)]; exact eG) tv g7 ⟨ok7, by omega, by omega, n7, u7⟩ (c6.trans c7)

section
variable {H H' : Hp} {pen L world scope left stock d : Addr} {ps : PenS} {W : List (Str × Nat)} {sc : List Str} {n : Int} {st : List Str}
/-- another list changes -/
theorem GenAt.oth {ys : List V} (g : GenAt H pen L ps world scope left stock W sc n st) (c : Chg d H H') (f : Fix pen left stock d) (fL : L ≠ d) (fw : world ≠ d) (fs : scope ≠ d) (hl : H d = some (.lst ys)) : GenAt H' pen L ps world scope left stock W sc n st :=
  ⟨g.r.chg c f fL, g.w.mono (c.tkl hl) (fun o e => c _ _ fw e), c _ _ fs g.gsc, g.fw, g.fs⟩
/-- another scope -/
theorem GenAt.scp {scope2 : Addr} {sc2 : List Str} (g : GenAt H pen L ps world scope left stock W sc n st) (h : H scope2 = some (.lst (sc2.map V.str))) (f : Fix pen left stock scope2) : GenAt H pen L ps world scope2 left stock W sc2 n st :=
  ⟨g.r, g.w, h, g.fw, f⟩
theorem GenAt.free (g : GenAt H pen L ps world scope left stock W sc n st) (h : H d = none) : Fix pen left stock d ∧ L ≠ d ∧ world ≠ d ∧ scope ≠ d := by
  obtain ⟨xs, hw, _⟩ := g.w
  exact ⟨g.r.new h, ne_of_none g.r.pd.hL h, ne_of_none hw h, ne_of_none g.gsc h⟩
end
theorem pure_letp {K : PySem.W.Frag} {w : World} {m : Nat} : PureOk 5 (spLet m) (t_law_let K w spDraw spFits spLeaf (spPart m)) 11 := by
  refine ⟨fun vs H Q E ⟨_, _, _, _, _, _, _, _, _, _, _, _, _, _, e, _⟩ => by rw [e]; rfl, ?_⟩
  rintro vs H Q E ⟨pen, L, ps, world, scope, room, left, stock, W, sc, D, n, st, want, rfl, h, hD, q⟩
  show t_law_let K w _ _ _ _ _ [some (.ref pen), some (.ref world), some (.ref scope), some (.ref room), some (.str want), none, none, none, none, none, none] H
  unfold t_law_let
  walk_at "go"
  intro a1 H1 na1 ea1 s1
  have g1 := h.g.same s1
  walk_at "go"
  refine g_drawD g1.r.pd (by decide) (by decide) fun y sA H2 dA y0 y1 hP2 c2 => ?_
  have g2 := g1.draw hP2 c2
  have c2' : Chg3 pen left stock H H2 := .trans (.same s1) (.ofp c2)
  obtain ⟨many, hmany, hm1, hm4⟩ : ∃ many : Nat, atI [V.int 1, V.int 1, V.int 2, V.int 1, V.int 2, V.int 3, V.int 4] y = some (.int many) ∧ 1 ≤ many ∧ many ≤ 4 := by
    obtain ⟨v, h1, h2, _⟩ := atI_in (xs := [V.int 1, V.int 1, V.int 2, V.int 1, V.int 2, V.int 3, V.int 4]) y0 y1
    simp only [List.mem_cons, List.not_mem_nil, or_false] at h2
    rcases h2 with rfl | rfl | rfl | rfl | rfl | rfl | rfl <;> first | exact ⟨1, h1, by decide, by decide⟩ | exact ⟨2, h1, by decide, by decide⟩ | exact ⟨3, h1, by decide, by decide⟩ | exact ⟨4, h1, by decide, by decide⟩
  refine g_ixL (.of (c2 _ _ (h.g.r.new na1).p ea1)) hmany ?_
  have elet : letM (partM W m) W sc D want ⟨ps, n, st⟩ = if st.length < many ∨ n < (many : Int) + 1 then leafG W sc want ⟨sA, n, st⟩ else
      (match rowsM (partM W m (sc ++ st.reverse.take many) D) (st.reverse.take many) many ⟨sA, n - ((many : Int) + 1), st.take (st.length - many)⟩ with
      | (r, g1) => match partM W m (sc ++ st.reverse.take many) D want g1 with
        | (p, g2) => (.letp r p, g2)) := by
    have ez : intAt [V.int 1, V.int 1, V.int 2, V.int 1, V.int 2, V.int 3, V.int 4] y = many := by unfold intAt; rw [hmany]
    unfold letM
    dsimp only
    rw [dA]; dsimp only
    rw [ez, Int.toNat_natCast]
  have pre2 : PartPre H2 pen L sA world scope room left stock W sc D n st want := h.go g2 c2' .refl h.n0
  have hroom2 := pre2.rm
  unfold RoomL at hroom2
  walk_at "go"
  refine g_lenL (.of g2.r.sk) ?_
  walk_at "go"
  have leafy : st.length < many ∨ n < (many : Int) + 1 → spLeaf ([.ref pen, .ref world, .ref scope, .str want] ++ []) H2 Q E0 := fun hc => pre2.leafArgs (by omega) fun v p ps' n' st' H' e t g o c => q v p ps' n' st' H' (by rw [elet, if_pos hc]; exact e) t g o (c2'.trans c)
  refine g_ite (fun hlen => ?_) (fun hlen => ?_)
  · refine g_T rfl ?_
    walk_at "go"
    exact leafy (.inl (by have := of_decide_eq_true hlen; rw [List.length_map] at this; omega))
  have hlen' : many ≤ st.length := by have := of_decide_eq_false hlen; rw [List.length_map] at this; omega
  walk_at "go"
  refine ⟨pen, L, sA, room, left, stock, D, n, (many : Int) + 1, st, rfl, g2.r, pre2.rm, fun hfit => ?_, fun hfit H4 r4 c4 => ?_⟩
  · walk_at "go"
    refine g_T rfl ?_
    walk_at "go"
    exact leafy (.inr hfit)
  walk_at "go"
  refine g_F rfl ?_
  walk_at "go"
  have g4 := g2.go r4 (.ofl c4)
  have c4' : Chg3 pen left stock H H4 := c2'.trans (.ofl c4)
  have hroom4 : RoomL H4 room left stock D := c4' _ _ h.fr h.rm
  refine g_isrng (by omega) (by omega) fun dn hdn => ?_
  have fd := g4.free hdn
  refine lc_any many (fun i acc H' => ∃ ns st1 : List Str, acc = ns.map V.str ∧ ns.length = i ∧ st = st1 ++ ns.reverse ∧ GenAt H' pen L sA world scope left stock W sc (n - (many + 1)) st1 ∧ Chg3 pen left stock H4 H') hdn
    (fun H' _ s => ⟨[], st, rfl, rfl, by simp, g4.same s, .same s⟩) (fun i acc H' hi _ => hi) (fun acc H' _ => Nat.le_refl _) ?_ ?_
  · rintro i x acc _ H5 hi hl ⟨ns, st1, rfl, hns, hst, g5, c5⟩ hd5 ⟨rfl, rfl⟩
    walk_at "go"
    refine ⟨rfl, ?_⟩
    walk_at "go"
    refine g_T rfl ?_
    walk_at "go"
    have hroom5 := c5 _ _ h.fr hroom4
    unfold RoomL at hroom5
    walk_at "go"
    obtain ⟨su, x, rfl⟩ : ∃ su x, st1 = su ++ [x] := by
      have : st1 ≠ [] := by
        rintro rfl
        rw [hst, List.nil_append, List.length_reverse] at hlen'
        omega
      exact ⟨st1.dropLast, st1.getLast this, (List.dropLast_concat_getLast this).symm⟩
    have hk5 := g5.r.sk
    rw [List.map_append] at hk5
    refine g_tyl (.of hk5) ?_
    refine g_pop hk5 fun H6 e6 c6 => ?_
    have g6 := g5.go (g5.r.setStock e6 c6) (.ofs c6)
    refine lc_step (c6 _ _ fd.1.s hd5) hl (by show _ < 16777216; omega) fun H7 e7 c7 => ?_
    exact ⟨ns ++ [x], su, by simp, by simp [hns], by rw [hst, List.reverse_append]; simp, g6.oth c7 fd.1 fd.2.1 fd.2.2.1 fd.2.2.2 (c6 _ _ fd.1.s hd5), fun b o f e => c7 b o (ne_of_none e hdn) (c6 b o f.s (c5 b o f e))⟩
  rintro acc H5 hd5 ⟨ns, st1, rfl, hns, hst, g5, c5⟩
  have hsub : ∀ x ∈ ns, x ∈ st := fun x hx => by rw [hst, List.mem_append, List.mem_reverse]; exact .inr hx
  have nmns : ∀ x ∈ ns, isName x := fun x hx => h.nm.nst x (hsub x hx)
  have ndns : ns.Nodup := by
    have := h.nm.nd
    rw [hst] at this
    exact (List.pairwise_reverse.mp (List.nodup_append.mp this).2.1).imp fun h => h.symm
  have used1 : Used st st1 ns := ⟨ns.reverse, hst, ndns, fun x hx => List.mem_reverse.mpr hx⟩
  have ens : st.reverse.take many = ns := by
    rw [hst, List.reverse_append, List.reverse_reverse, ← hns, List.take_left]
  have est1 : st.take (st.length - many) = st1 := by
    rw [hst]
    have : (st1 ++ ns.reverse).length - many = st1.length := by simp; omega
    rw [this, List.take_left]
  rw [ens, est1] at elet
  have nm1 : NamesOk (sc ++ ns) st1 := by
    have n1 := h.nm.go used1
    refine ⟨fun x hx => ?_, n1.nst, n1.nd, ?_⟩
    · rcases List.mem_append.mp hx with h' | h'
      · exact h.nm.nsc x h'
      · exact nmns x h'
    · have := h.nm.few
      rw [hst] at this
      simp only [List.length_append, List.length_reverse] at this ⊢
      omega
  walk_at "go"
  intro rw_ H6 nr er s6
  have g6 := g5.same s6
  have fr := g5.free nr
  have hd6 := s6 _ _ hd5
  have hrd : dn ≠ rw_ := ne_of_none hd5 nr
  have c6 : Chg3 pen left stock H4 H6 := c5.trans (.same s6)
  have hroom6 : RoomL H6 room left stock D := c6 _ _ h.fr hroom4
  have hrr : room ≠ rw_ := ne_of_none (show H5 room = some _ from c5 _ _ h.fr hroom4) nr
  walk_at "go"
  refine g_seqL ?_
  walk_at "go"
  refine g_isL (.of hd6) ?_
  refine for_any ns.length (fun i σ H' => ∃ (x y : Option V) (vs : List V) (r : Rows) (ps' : PenS) (n' : Int) (st' : List Str), rowsM (partM W m (sc ++ ns) D) ns i ⟨sA, n - ((many : Int) + 1), st1⟩ = (r, ⟨ps', n', st'⟩) ∧ σ = [some (.ref pen), some (.ref world), some (.ref scope), some (.ref room), some (.str want), some (.int many), some (.ref dn), none, some (.ref rw_), x, y] ∧
      H' rw_ = some (.lst vs) ∧ H' dn = some (.lst (ns.map V.str)) ∧ Tps H' vs r.datas ∧ r.names = ns.take i ∧ GenAt H' pen L ps' world scope left stock W sc n' st' ∧ r.ok (W.map (·.1)) (sc ++ ns) ∧ r.deep ≤ D.toNat + 1 ∧ (r.size : Int) + n' ≤ n - (many + 1) + i ∧ 0 ≤ n' ∧ Used st1 st' r.rowNames ∧
      vs.length = i ∧ (∀ b o, Fix pen left stock b → b ≠ rw_ → H6 b = some o → H' b = some o))
    ⟨none, none, [], .nil, sA, n - (many + 1), st1, rfl, rfl, er, hd6, .nil, by simp [Rows.names], g6, trivial, by show 0 ≤ _; omega, by show ((0 : Nat) : Int) + _ ≤ _; omega, by omega, .refl, rfl, fun b o _ _ e => e⟩
    (fun i σ H' hi ⟨_, _, _, _, _, _, _, _, _, _, hd', _⟩ => ⟨_, _, .of hd', (List.getElem?_eq_getElem (by rw [List.length_map]; exact hi))⟩) (fun σ H' ⟨_, _, _, _, _, _, _, _, _, _, hd', _⟩ => ⟨_, .of hd', by rw [List.length_map]; exact Nat.le_refl _⟩) ?_ ?_
  · rintro i x σ _ H7 hi ⟨x9, x10, vs, r, ps', n', st', eR, rfl, hr7, hd7, tv, hnm, g7, ok7, d7, z7, n7, u7, hvl, c7⟩ ⟨rfl, hx⟩
    obtain ⟨nm, hnmi, rfl⟩ : ∃ nm, ns[i]? = some nm ∧ x = .str nm := by
      have h1 := hx _ (.of hd7)
      rw [List.getElem?_map] at h1
      obtain ⟨nm, h2, h3⟩ := Option.map_eq_some_iff.mp h1
      exact ⟨nm, h2, h3.symm⟩
    walk_at "go"
    intro a8 H8 na8 ea8 s8
    walk_at "go"
    have g8 := g7.same s8
    refine g_drawD g8.r.pd (by decide) (by decide) fun y sD H9 dD y0 y1 hP9 c9 => ?_
    have g9 := g8.draw hP9 c9
    obtain ⟨kd, hkd, hkm⟩ : ∃ kd : Str, atI [V.str "number", V.str "pair", V.str "any"] y = some (.str kd) ∧ kd ∈ [("number" : Str), "pair", "any"] := by
      obtain ⟨v, h1, h2, _⟩ := atI_in (xs := [V.str "number", V.str "pair", V.str "any"]) y0 y1
      simp only [List.mem_cons, List.not_mem_nil, or_false] at h2
      rcases h2 with rfl | rfl | rfl <;> exact ⟨_, h1, by simp⟩
    refine g_ixL (.of (c9 _ _ (g7.r.new na8).p ea8)) hkd ?_
    have c9' : Chg3 pen left stock H7 H9 := .trans (.same s8) (.ofp c9)
    have hr9 := c9' _ _ fr.1 hr7
    have hd9 := c9' _ _ fd.1 hd7
    walk_at "go"
    refine g_tyl (.of hr9) ?_
    walk_at "go"
    refine g_addL g9.gsc hd9 (by rw [List.length_map, List.length_map]; show _ ≤ 16777216; have := h.nm.few; omega) fun sc2 H10 ns10 es10 s10 => ?_
    rw [← List.map_append] at es10
    have g10 := (g9.same s10).scp es10 (g9.free ns10).1
    have c10 : Chg3 pen left stock H7 H10 := c9'.trans (.same s10)
    walk_at "go"
    have hrm10 : RoomL H10 room left stock D := c10 _ _ h.fr (c7 _ _ h.fr hrr hroom6)
    refine ⟨pen, L, sD, world, sc2, room, left, stock, W, sc ++ ns, D, n', st', kd, rfl, ⟨g10, h.w, nm1.go u7, n7, hrm10, h.fr, h.d0, hkm⟩, hD, fun v p ps2 n2 st2 H11 e11 t11 g11 o11 c11 => ?_⟩
    walk_at "go"
    intro a12 H12 na12 ea12 s12
    walk_at "go"
    have c12 : Chg3 pen left stock H7 H12 := c10.trans (c11.trans (.same s12))
    have hr12 := c12 _ _ fr.1 hr7
    have hd12 := c12 _ _ fd.1 hd7
    have g12 := (g11.same s12).scp (c12 _ _ g7.fs g7.gsc) g7.fs
    refine g_append hr12 (by rw [hvl]; show _ < 16777216; omega) fun H13 e13 c13 => ?_
    walk_at "go"
    have k12 : Tk H7 H12 := (g7.r.tk c12 g12.r)
    have k13 : Tk H12 H13 := c13.tkl hr12
    refine ⟨_, _, vs ++ [.ref a12], r.app (.cons nm p .nil), ps2, n2, st2, rowsM_succ eR dD hkd e11 hnmi, rfl, e13, c13 _ _ hrd hd12, ?_, ?_, g12.oth c13 fr.1 fr.2.1 fr.2.2.1 fr.2.2.2 hr12, Rows.app_ok ok7 ⟨o11.ok, trivial⟩, ?_, ?_, o11.left, ?_, by simp [hvl], fun b o f hb e => c13 b o hb (c12 b o f (c7 b o f hb e))⟩
    · rw [Rows.app_datas]
      refine Tps.append ((tv.mono k12).mono k13) (.one ?_)
      exact .tup (k13 _ _ ea12) (.cons (.str _) (.one ((t11.mono (Same.tk s12)).mono k13)))
    · rw [Rows.app_names, hnm, List.take_add_one, hnmi]
      rfl
    · rw [Rows.app_deep]
      have := o11.deep
      show max _ (max _ 0) ≤ _
      omega
    · rw [Rows.app_size]
      have := o11.size
      show ((_ + (p.size + 0) : Nat) : Int) + _ ≤ _
      omega
    · rw [Rows.app_rowNames]
      have := u7.app o11.names nm1.nd
      show Used st1 st2 (_ ++ (p.rowNames ++ []))
      rw [List.append_nil]
      exact this
  rintro σ H7 ⟨x9, x10, vs, r, ps', n', st', eR, rfl, hr7, hd7, tv, hnm, g7, ok7, d7, z7, n7, u7, hvl, c7⟩
  rw [List.take_length] at hnm
  walk_at "go"
  refine g_tupleL (.of hr7) fun t H8 nt et s8 => ?_
  walk_at "go"
  have g8 := g7.same s8
  refine g_addL g8.gsc (s8 _ _ hd7) (by rw [List.length_map, List.length_map]; show _ ≤ 16777216; have := h.nm.few; omega) fun sc2 H10 ns10 es10 s10 => ?_
  rw [← List.map_append] at es10
  have g10 := (g8.same s10).scp es10 (g8.free ns10).1
  have s10' : Same H7 H10 := s8.trans s10
  walk_at "go"
  have hrm10 : RoomL H10 room left stock D := s10' _ _ (c7 _ _ h.fr hrr hroom6)
  refine ⟨pen, L, ps', world, sc2, room, left, stock, W, sc ++ ns, D, n', st', want, rfl, ⟨g10, h.w, nm1.go u7, n7, hrm10, h.fr, h.d0, h.wt⟩, hD, fun v p ps2 n2 st2 H11 e11 t11 g11 o11 c11 => ?_⟩
  walk_at "go"
  intro a12 H12 na12 ea12 s12
  have c12 : Chg3 pen left stock H7 H12 := .trans (.same s10') (c11.trans (.same s12))
  have g12 := (g11.same s12).scp (c12 _ _ g7.fs g7.gsc) g7.fs
  have k12 : Tk H7 H12 := (g7.r.tk c12 g12.r)
  have fs12 : ∀ b o, Fix pen left stock b → H b = some o → H12 b = some o := fun b o f e => c12 b o f (c7 b o f (ne_of_none (c5 b o f (c4' b o f e)) nr) (c6 b o f (c4' b o f e)))
  have hu := used1.app (u7.app o11.names nm1.nd) h.nm.nd
  refine q (.ref a12) (.letp r p) ps2 n2 st2 H12 (by rw [hns] at eR; rw [elet, if_neg (by omega), eR]; dsimp only; rw [e11]) ?_ g12 ⟨?_, ?_, ?_, o11.left, ?_⟩ fs12
  · refine .tup ea12 (.cons (.str _) (.cons (.tup ?_ (tv.mono k12)) (.one (t11.mono (Same.tk s12)))))
    have hN : Fix pen left stock t := g7.r.new nt
    exact s12 _ _ (c11 _ _ hN (s10 _ _ et))
  · refine ⟨by rw [hnm]; omega, by rw [hnm]; rintro rfl; rw [List.length_nil] at hns; omega, by rw [hnm]; exact nmns, by rw [hnm]; exact ok7, by rw [hnm]; exact o11.ok⟩
  · have := o11.deep
    show 1 + max _ _ ≤ _
    omega
  · have := o11.size
    show ((1 + (r.size + p.size) : Nat) : Int) + _ ≤ _
    omega
  · show Used st st2 (r.names ++ (r.rowNames ++ p.rowNames))
    rw [hnm]
    exact hu

/-! ### a part by its word -/
theorem pure_part {K : PySem.W.Frag} {w : World} {m : Nat} : PureOk 5 (spPart (m + 1)) (t_law_part K w spDraw spLeaf (spCallP m) (spLet m) spFits (spPart m)) 10 := by
  refine ⟨fun vs H Q E ⟨_, _, _, _, _, _, _, _, _, _, _, _, _, _, e, _⟩ => by rw [e]; rfl, ?_⟩
  rintro vs H Q E ⟨pen, L, ps, world, scope, room, left, stock, W, sc, D, n, st, want, rfl, h, hD, q⟩
  show t_law_part K w _ _ _ _ _ _ _ [some (.ref pen), some (.ref world), some (.ref scope), some (.ref room), some (.str want), none, none, none, none, none] H
  unfold t_law_part
  walk_at "go"
  intro d1 H1 nd1 ed1 s1
  walk_at "go"
  refine g_pairs [(.inr "number", .str "op op op op op op when when side let call call call call leaf leaf")] ed1 rfl (by decide) fun H2 ed2 c2 => ?_
  walk_at "go"
  refine g_setK ed2 (k := .inr "pair") rfl (by decide +kernel) fun H3 ed3 c3 => ?_
  walk_at "go"
  refine g_setK ed3 (k := .inr "any") rfl (by decide +kernel) fun H4 ed4 c4 => ?_
  have s4 : Same H H4 := Same.chg (Same.chg (Same.chg s1 nd1 c2) nd1 c3) nd1 c4
  have g4 := h.g.same s4
  clear c4 c3 c2 ed3 ed2 ed1
  walk_at "go"
  obtain ⟨hw1, hw2, hw3, hw4⟩ := words_at want h.wt
  refine g_ixD ed4 (k := .inr want) rfl hw1 ?_
  walk_at "go"
  refine ⟨_, _, rfl, rfl, by decide +kernel, by show _ ≤ 16777216; omega, fun l5 H5 nl5 el5 s5 => ?_⟩
  walk_at "go"
  have g5 := g4.same s5
  refine g_drawD g5.r.pd (by decide) (by decide) fun y sA H6 dA y0 y1 hP6 c6 => ?_
  have g6 := g5.draw hP6 c6
  obtain ⟨word, hword, hk⟩ : ∃ word : Str, atI ((Txt.split (wordsOf want) " ").map V.str) y = some (.str word) ∧ word ∈ kinds7 := by
    obtain ⟨v, h1, h2, _⟩ := atI_in (xs := (Txt.split (wordsOf want) " ").map V.str) y0 (by rw [List.length_map, hw2]; exact y1)
    obtain ⟨x, hx, rfl⟩ := List.mem_map.mp h2
    exact ⟨x, h1, hw4 x hx⟩
  refine g_ixL (.of (c6 _ _ (g4.free nl5).1.p el5)) hword ?_
  have epart : partM W (m + 1) sc D want ⟨ps, n, st⟩ =
      if D < 1 ∨ word = "leaf" ∨ (word = "call" ∧ (W = [] ∨ D < 6)) then leafG W sc want ⟨sA, n, st⟩
      else if word = "call" then callM (partM W m) W sc (D - 1) want ⟨sA, n, st⟩
      else if word = "let" then letM (partM W m) W sc (D - 1) want ⟨sA, n, st⟩
      else if n < manyOf word then leafG W sc want ⟨sA, n, st⟩
      else kindM (partM W m) sc D want word ⟨sA, n - manyOf word, st⟩ := by
    have ew : kindAt ((Txt.split (wordsOf want) " ").map V.str) y = word := by unfold kindAt; rw [hword]
    rw [partM]
    dsimp only
    rw [dA]; dsimp only
    rw [ew]
  have c6' : Chg3 pen left stock H H6 := .trans (.same (s4.trans s5)) (.ofp c6)
  have hr6 : RoomL H6 room left stock D := c6' _ _ h.fr h.rm
  have hr6' := hr6
  unfold RoomL at hr6'
  clear hword y0 y1 el5 hw1 hw2 hw3 hw4 ed4
  walk_at "go"
  intro inner H7 ni ei s7
  have g7 := g6.same s7
  have fi := g6.free ni
  have c7 : Chg3 pen left stock H H7 := c6'.trans (.same s7)
  have pre7 : PartPre H7 pen L sA world scope room left stock W sc D n st want := h.go g7 c7 .refl h.n0
  have hr7' := s7 _ _ hr6'
  have leafy : ∀ {H8 : Hp}, partM W (m + 1) sc D want ⟨ps, n, st⟩ = leafG W sc want ⟨sA, n, st⟩ → GenAt H8 pen L sA world scope left stock W sc n st → Chg3 pen left stock H7 H8 → spLeaf ([.ref pen, .ref world, .ref scope, .str want] ++ []) H8 Q E0 := fun ep g8 c8 =>
    (pre7.go g8 c8 .refl h.n0).leafArgs (by omega) fun v p ps' n' st' H' e t g o c => q v p ps' n' st' H' (ep.trans e) t g o (c7.trans (c8.trans c))
  walk_at "go"
  -- what is not drawn as a leaf at once
  by_cases hd0 : D < 1
  · refine g_T (decide_eq_true hd0) ?_
    refine g_T rfl ?_
    walk_at "go"
    exact leafy (by rw [epart, if_pos (.inl hd0)]) g7 .refl
  refine g_F (decide_eq_false hd0) ?_
  walk_at "go"
  by_cases hleaf : word = "leaf"
  · refine g_T (decide_eq_true hleaf) ?_
    refine g_T rfl ?_
    walk_at "go"
    exact leafy (by rw [epart, if_pos (.inr (.inl hleaf))]) g7 .refl
  refine g_F (decide_eq_false hleaf) ?_
  walk_at "go"
  by_cases hcall : word = "call"
  · refine g_T (decide_eq_true hcall) ?_
    walk_at "go"
    intro l8 H8 nl8 el8 s8
    have g8 := g7.same s8
    obtain ⟨wx, hw, tw⟩ := g8.w
    refine g_eqD (.lst (.of hw) (Tps.dp tw)) (.lst (.of el8) .nil) (shaped_world h.w) shaped_nil ?_
    rw [eqv_nil]
    have hr8' := s8 _ _ hr7'
    walk_at "go"
    refine g_ite (fun hW => ?_) (fun hW => ?_)
    · refine g_T rfl ?_
      walk_at "go"
      exact leafy (by rw [epart, if_pos (.inr (.inr ⟨hcall, .inl (by cases W with | nil => rfl | cons x l => simp at hW)⟩))]) g8 (.same s8)
    walk_at "go"
    refine g_ite (fun h6 => ?_) (fun h6 => ?_)
    · walk_at "go"
      exact leafy (by rw [epart, if_pos (.inr (.inr ⟨hcall, .inr (of_decide_eq_true h6)⟩))]) g8 (.same s8)
    walk_at "go"
    refine g_T (decide_eq_true hcall) ?_
    walk_at "go"
    have h6' := of_decide_eq_false h6
    have c8 : Chg3 pen left stock H H8 := c7.trans (.same s8)
    have hW0 : W ≠ [] := by rintro rfl; simp at hW
    exact ⟨pen, L, sA, world, scope, inner, left, stock, W, sc, D - 1, n, st, want, rfl, ⟨g8, h.w, h.nm, h.n0, s8 _ _ ei, fi.1, by omega, h.wt⟩, by omega, by omega, hW0, fun v p ps' n' st' H' e t g o c => q v p ps' n' st' H' (by rw [epart, if_neg (by rintro (h | h | h); exact hd0 h; exact hleaf h; exact h.2.elim hW0 h6'), if_pos hcall]; exact e) t g ⟨o.ok, by have := o.deep; omega, o.size, o.left, o.names⟩ (c8.trans c)⟩
  refine g_F (decide_eq_false hcall) ?_
  refine g_F rfl ?_
  have hno : ¬ (D < 1 ∨ word = "leaf" ∨ (word = "call" ∧ (W = [] ∨ D < 6))) := by rintro (h | h | h); exact hd0 h; exact hleaf h; exact hcall h.1
  rw [if_neg hno, if_neg hcall] at epart
  have preI : ∀ {H8 : Hp} {ps8 : PenS} {n8 : Int} {st8 A : List Str} {want8 : Str}, GenAt H8 pen L ps8 world scope left stock W sc n8 st8 → Chg3 pen left stock H7 H8 → Used st st8 A → 0 ≤ n8 → want8 ∈ [("number" : Str), "pair", "any"] →
      PartPre H8 pen L ps8 world scope inner left stock W sc (D - 1) n8 st8 want8 := fun g8 c8 u8 h8 hw8 => ⟨g8, h.w, h.nm.go u8, h8, c8 _ _ fi.1 ei, fi.1, by omega, hw8⟩
  walk_at "go"
  refine g_F (decide_eq_false hcall) ?_
  walk_at "go"
  by_cases hlet : word = "let"
  · refine g_T (decide_eq_true hlet) ?_
    walk_at "go"
    exact ⟨pen, L, sA, world, scope, inner, left, stock, W, sc, D - 1, n, st, want, rfl, preI g7 .refl .refl h.n0 h.wt, by omega, fun v p ps' n' st' H' e t g o c => q v p ps' n' st' H' (by rw [epart, if_pos hlet]; exact e) t g ⟨o.ok, by have := o.deep; omega, o.size, o.left, o.names⟩ (c7.trans c)⟩
  refine g_F (decide_eq_false hlet) ?_
  rw [if_neg hlet] at epart
  walk_at "go"
  have hk4 : word ∈ [("side" : Str), "pair", "when", "op"] := by
    simp only [kinds7, List.mem_cons, List.not_mem_nil, or_false] at hk ⊢
    rcases hk with h | h | h | h | h | h | h
    · exact .inr (.inr (.inr h))
    · exact .inr (.inr (.inl h))
    · exact .inl h
    · exact absurd h hlet
    · exact absurd h hcall
    · exact absurd h hleaf
    · exact .inr (.inl h)
  obtain ⟨many, hmany⟩ : ∃ many : Nat, valV (mergeK [] kv4) (Sum.inr word) = some (.int many) ∧ (word = "side" → many = 1) ∧ (word = "pair" → many = 2) ∧ (word = "when" → many = 3) ∧ (word = "op" → many = 2) := by
    simp only [List.mem_cons, List.not_mem_nil, or_false] at hk4
    rcases hk4 with rfl | rfl | rfl | rfl
    · exact ⟨1, by decide +kernel⟩
    · exact ⟨2, by decide +kernel⟩
    · exact ⟨3, by decide +kernel⟩
    · exact ⟨2, by decide +kernel⟩
  obtain ⟨hmany, hmside, hmpair, hmwhen, hmop⟩ := hmany
  have emany : manyOf word = many := by unfold manyOf; rw [hmany]
  rw [emany] at epart
  intro d8 H8 nd8 ed8 s8
  walk_at "go"
  refine g_pairs kv4 ed8 rfl (by decide) fun H9 ed9 c9 => ?_
  have s9 : Same H7 H9 := Same.chg s8 nd8 c9
  have g9 := g7.same s9
  walk_at "go"
  refine g_ixD ed9 (k := .inr word) rfl hmany ?_
  walk_at "go"
  refine ⟨pen, L, sA, room, left, stock, D, n, many, st, rfl, g9.r, s9 _ _ hr7', fun hfit => ?_, fun hfit H10 r10 c10 => ?_⟩
  · walk_at "go"
    refine g_T rfl ?_
    walk_at "go"
    exact leafy (by rw [epart, if_pos hfit]) g9 (.same s9)
  walk_at "go"
  refine g_F rfl ?_
  walk_at "go"
  have g10 := g9.go r10 (.ofl c10)
  have c10' : Chg3 pen left stock H7 H10 := .trans (.same s9) (.ofl c10)
  rw [if_neg (Int.not_lt.mpr hfit)] at epart
  have hM : ∀ (v : V) (p : Part) (ps' : PenS) (n' : Int) (st' : List Str) (H' : Hp), kindM (partM W m) sc D want word ⟨sA, n - many, st⟩ = (p, ⟨ps', n', st'⟩) → Tp H' v p.data → GenAt H' pen L ps' world scope left stock W sc n' st' → p.ok (W.map (·.1)) sc → p.deep ≤ D.toNat + 1 → (p.size : Int) + n' ≤ 1 + n → 0 ≤ n' → Used st st' p.rowNames → Chg3 pen left stock H10 H' → Q v H' :=
    fun v p ps' n' st' H' e t g h1 h2 h3 h4 h5 c => q v p ps' n' st' H' (epart.trans e) t g ⟨h1, h2, h3, h4, h5⟩ (c7.trans (c10'.trans c))
  by_cases hside : word = "side"
  · refine g_T (decide_eq_true hside) ?_
    walk_at "go"
    intro l11 H11 nl11 el11 s11
    walk_at "go"
    have g11 := g10.same s11
    refine g_drawD g11.r.pd (by decide) (by decide) fun y sB H12 dB y0 y1 hP12 c12 => ?_
    have g12 := g11.draw hP12 c12
    obtain ⟨k1, hk1, ek1⟩ : ∃ k1 : K1, atI [V.str "left", V.str "right"] y = some (.str k1.word) ∧ k1At y = k1 := by
      obtain rfl | rfl : y = 0 ∨ y = 1 := by omega
      · exact ⟨.left, rfl, rfl⟩
      · exact ⟨.right, rfl, rfl⟩
    refine g_ixL (.of (c12 _ _ (g10.free nl11).1.p el11)) hk1 ?_
    walk_at "go"
    have c12' : Chg3 pen left stock H10 H12 := .trans (.same s11) (.ofp c12)
    refine ⟨pen, L, sB, world, scope, inner, left, stock, W, sc, D - 1, n - many, st, "pair", rfl, preI g12 (c10'.trans c12') .refl (by omega) (by simp), by omega, fun v p ps' n' st' H13 eP t g o c => ?_⟩
    walk_at "go"
    intro a14 H14 na14 ea14 s14
    have := o.deep
    have := o.size
    have := hmside hside
    exact hM (.ref a14) (.one k1 p) ps' n' st' H14 (by unfold kindM; rw [if_pos hside]; dsimp only; rw [dB]; dsimp only; rw [eP]; dsimp only; rw [ek1]) (.tup ea14 (.cons (.str _) (.one (t.mono (Same.tk s14))))) (g.same s14) o.ok (by show 1 + p.deep ≤ _; omega) (by show ((1 + p.size : Nat) : Int) + _ ≤ _; omega) o.left o.names (c12'.trans (c.trans (.same s14)))
  refine g_F (decide_eq_false hside) ?_
  walk_at "go"
  intro l11 H11 nl11 el11 s11
  have g11 := g10.same s11
  walk_at "go"
  obtain ⟨w1, hw1, hwm1, ew1⟩ : ∃ w1 : Str, atI [V.str "number", V.str "any"] (if decide (word = "pair") = true then 1 else 0) = some (.str w1) ∧ w1 ∈ [("number" : Str), "pair", "any"] ∧ (if word = "pair" then ("any" : Str) else "number") = w1 := by
    by_cases hp : word = "pair"
    · rw [if_pos hp, if_pos (decide_eq_true hp)]
      exact ⟨"any", rfl, by simp, rfl⟩
    · rw [if_neg hp, if_neg (by rw [decide_eq_false hp]; decide)]
      exact ⟨"number", rfl, by simp, rfl⟩
  refine g_ixL (.of el11) hw1 ?_
  walk_at "go"
  have c11 : Chg3 pen left stock H10 H11 := .same s11
  refine ⟨pen, L, sA, world, scope, inner, left, stock, W, sc, D - 1, n - many, st, w1, rfl, preI g11 (c10'.trans c11) .refl (by omega) hwm1, by omega, fun v1 p1 ps1 n1 st1 H12 e1 t1 g12 o1 c12 => ?_⟩
  walk_at "go"
  intro d13 H13 nd13 ed13 s13
  walk_at "go"
  refine g_pairs [(.inr "pair", .str "any"), (.inr "when", .str want), (.inr "op", .str "number")] ed13 rfl (by show 3 ≤ 15; decide) fun H14 ed14 c14 => ?_
  have s14 : Same H12 H14 := Same.chg s13 nd13 c14
  have g14 := g12.same s14
  walk_at "go"
  obtain ⟨w2, hw2, hwm2⟩ : ∃ w2 : Str, valV (mergeK [] [(.inr "pair", .str "any"), (.inr "when", .str want), (.inr "op", .str "number")]) (Sum.inr word) = some (.str w2) ∧ w2 ∈ [("number" : Str), "pair", "any"] := by
    simp only [List.mem_cons, List.not_mem_nil, or_false] at hk4
    rcases hk4 with rfl | rfl | rfl | rfl
    · exact absurd rfl hside
    · exact ⟨"any", rfl, by simp⟩
    · exact ⟨want, rfl, h.wt⟩
    · exact ⟨"number", rfl, by simp⟩
  have ew2 : want2 word want = w2 := by unfold want2; rw [hw2]
  have ekind : ∀ {p2 : Part} {g2 : GS}, partM W m sc (D - 1) w2 ⟨ps1, n1, st1⟩ = (p2, g2) → kindM (partM W m) sc D want word ⟨sA, n - many, st⟩ =
      if word = "pair" then (.two .pair p1 p2, g2)
      else if word = "when" then (match partM W m sc (D - 1) want g2 with
        | (p3, g3) => (.whn p1 p2 p3, g3))
      else (match g2.s.draw 4 with
        | (y, s) => (.two (k2At y) p1 p2, ⟨s, g2.n, g2.st⟩)) := by
    intro p2 g2 e2
    unfold kindM
    rw [if_neg hside, ew1, e1]; dsimp only
    rw [ew2, e2]
  refine g_ixD ed14 (k := .inr word) rfl hw2 ?_
  walk_at "go"
  have c14' : Chg3 pen left stock H10 H14 := c11.trans (c12.trans (.same s14))
  refine ⟨pen, L, ps1, world, scope, inner, left, stock, W, sc, D - 1, n1, st1, w2, rfl, preI g14 (c10'.trans c14') o1.names o1.left hwm2, by omega, fun v2 p2 ps2 n2 st2 H15 e2 t2 g15 o2 c15 => ?_⟩
  have t1' : Tp H15 v1 p1.data := (t1.mono (Same.tk s14)).mono (g14.r.tk c15 g15.r)
  have u2 := Used.app o1.names o2.names h.nm.nd
  have c15' : Chg3 pen left stock H10 H15 := c14'.trans c15
  have hd1 := o1.deep
  have hd2 := o2.deep
  have hz1 := o1.size
  have hz2 := o2.size
  walk_at "go"
  by_cases hpair : word = "pair"
  · refine g_T (decide_eq_true hpair) ?_
    walk_at "go"
    intro a16 H16 na16 ea16 s16
    have := hmpair hpair
    exact hM (.ref a16) (.two .pair p1 p2) ps2 n2 st2 H16 (by rw [ekind e2, if_pos hpair]) (.tup ea16 (.cons (.str _) (.cons (t1'.mono (Same.tk s16)) (.one (t2.mono (Same.tk s16)))))) (g15.same s16) ⟨o1.ok, o2.ok⟩ (by show 1 + max _ _ ≤ _; omega) (by show ((1 + (p1.size + p2.size) : Nat) : Int) + _ ≤ _; omega) o2.left u2 (c15'.trans (.same s16))
  refine g_F (decide_eq_false hpair) ?_
  walk_at "go"
  by_cases hwhen : word = "when"
  · refine g_T (decide_eq_true hwhen) ?_
    walk_at "go"
    refine ⟨pen, L, ps2, world, scope, inner, left, stock, W, sc, D - 1, n2, st2, want, rfl, preI g15 (c10'.trans c15') u2 o2.left h.wt, by omega, fun v3 p3 ps3 n3 st3 H16 e3 t3 g16 o3 c16 => ?_⟩
    walk_at "go"
    intro a17 H17 na17 ea17 s17
    have k16 := g15.r.tk c16 g16.r
    have hd3 := o3.deep
    have hz3 := o3.size
    have := hmwhen hwhen
    have u3 := u2.app o3.names h.nm.nd
    rw [List.append_assoc] at u3
    exact hM (.ref a17) (.whn p1 p2 p3) ps3 n3 st3 H17 (by rw [ekind e2, if_neg hpair, if_pos hwhen, e3]) (.tup ea17 (.cons (.str _) (.cons ((t1'.mono k16).mono (Same.tk s17)) (.cons ((t2.mono k16).mono (Same.tk s17)) (.one (t3.mono (Same.tk s17))))))) (g16.same s17) ⟨o1.ok, o2.ok, o3.ok⟩ (by show 1 + max _ (max _ _) ≤ _; omega) (by show ((1 + (p1.size + (p2.size + p3.size)) : Nat) : Int) + _ ≤ _; omega) o3.left u3 (c15'.trans (c16.trans (.same s17)))
  refine g_F (decide_eq_false hwhen) ?_
  walk_at "go"
  have hop : word = "op" := by
    simp only [List.mem_cons, List.not_mem_nil, or_false] at hk4
    rcases hk4 with h | h | h | h
    · exact absurd h hside
    · exact absurd h hpair
    · exact absurd h hwhen
    · exact h
  intro l16 H16 nl16 el16 s16
  walk_at "go"
  have g16 := g15.same s16
  refine g_drawD g16.r.pd (by decide) (by decide) fun y sB H17 dB y0 y1 hP17 c17 => ?_
  have g17 := g16.draw hP17 c17
  obtain ⟨k2, hk2, ek2⟩ : ∃ k2 : K2, atI [V.str "plus", V.str "less", V.str "times", V.str "below"] y = some (.str k2.word) ∧ k2At y = k2 := by
    obtain rfl | rfl | rfl | rfl : y = 0 ∨ y = 1 ∨ y = 2 ∨ y = 3 := by omega
    · exact ⟨.plus, rfl, rfl⟩
    · exact ⟨.less, rfl, rfl⟩
    · exact ⟨.times, rfl, rfl⟩
    · exact ⟨.below, rfl, rfl⟩
  refine g_ixL (.of (c17 _ _ (g15.free nl16).1.p el16)) hk2 ?_
  walk_at "go"
  intro a18 H18 na18 ea18 s18
  have c18 : Chg3 pen left stock H15 H17 := .trans (.same s16) (.ofp c17)
  have k17 := g15.r.tk c18 g17.r
  have := hmop hop
  exact hM (.ref a18) (.two k2 p1 p2) sB n2 st2 H18 (by rw [ekind e2, if_neg hpair, if_neg hwhen]; dsimp only; rw [dB]; dsimp only; rw [ek2]) (.tup ea18 (.cons (.str _) (.cons ((t1'.mono k17).mono (Same.tk s18)) (.one ((t2.mono k17).mono (Same.tk s18)))))) (g17.same s18) ⟨o1.ok, o2.ok⟩ (by show 1 + max _ _ ≤ _; omega) (by show ((1 + (p1.size + p2.size) : Nat) : Int) + _ ≤ _; omega) o2.left u2 (c15'.trans (c18.trans (.same s18)))

/-! ### a loop -/
theorem Part.size_pos : ∀ p : Part, 1 ≤ p.size
  | .num _ => Nat.le_refl _
  | .name _ => Nat.le_refl _
  | .fn _ => Nat.le_refl _
  | .one _ _ => Nat.le_add_right _ _
  | .two _ _ _ => Nat.le_add_right _ _
  | .whn _ _ _ => Nat.le_add_right _ _
  | .letp _ _ => Nat.le_add_right _ _
  | .shut _ => Nat.le_refl _
theorem cut_from {ss : List Str} (k : Nat) (h : k ≤ ss.length) : cutV (ss.map V.str) (some (k : Int)) none = (ss.drop k).map V.str := by
  unfold cutV
  rw [HT.sIx_none, HT.sIx_nat, List.length_map, Nat.min_eq_left h, ← List.map_drop, List.take_of_length_le (by rw [List.length_map, List.length_drop]; exact Nat.le_refl _)]
theorem cut_to {ss : List Str} (k : Nat) : cutV (ss.map V.str) none (some (k : Int)) = (ss.take k).map V.str := by
  unfold cutV
  rw [HT.sIx_none, HT.sIx_nat, List.length_map, Nat.sub_zero, List.drop_zero, ← List.map_take]
  by_cases h : k ≤ ss.length
  · rw [Nat.min_eq_left h]
  · rw [Nat.min_eq_right (by omega), List.take_of_length_le (Nat.le_refl _), List.take_of_length_le (by omega)]
def loopGivesM (F : PartF) (sc : List Str) (f : Part) : Nat → GS → Part × GS
  | 0, g => (f, g)
  | i + 1, g => match loopGivesM F sc f i g with
    | (p, g1) => match F sc 2 "any" g1 with
      | (p2, g2) => match g2.s.draw 2 with
        | (y, s) => (.two .give p (if y = 0 then .name (((sc.drop 1)[i]?).getD "") else p2), ⟨s, g2.n, g2.st⟩)
theorem loopGivesM_succ {F : PartF} {sc : List Str} {f p p2 : Part} {i : Nat} {g g1 g2 : GS} {y : Int} {s : PenS} {nm : Str} (h1 : loopGivesM F sc f i g = (p, g1)) (h2 : F sc 2 "any" g1 = (p2, g2)) (h3 : g2.s.draw 2 = (y, s)) (h4 : (sc.drop 1)[i]? = some nm) :
    loopGivesM F sc f (i + 1) g = (.two .give p (if y = 0 then .name nm else p2), ⟨s, g2.n, g2.st⟩) := by
  rw [loopGivesM, h1]; dsimp only
  rw [h2]; dsimp only
  rw [h3, h4]
  rfl
def moreAt (y : Int) (p p2 : Part) : Part := if y = 0 then p else if y = 1 then .two .plus p2 p else if y = 2 then .two .pair p2 p else .two .plus p p2
def loopM (F : PartF) (me : Str) (sc : List Str) (g : GS) : Part × GS :=
  match loopGivesM F sc (.two .give (.fn me) (.two .less (.name (sc.headD "")) (.num 1))) (sc.drop 1).length g with
  | (p, g1) => match F sc 3 "number" g1 with
    | (p2, g2) => match g2.s.draw 4 with
      | (y, s) => match F sc 3 "number" ⟨s, g2.n, g2.st⟩ with
        | (p4, g4) => (.whn (.name (sc.headD "")) (moreAt y p p2) p4, g4)
structure LoopPre (H : Hp) (pen L : Addr) (ps : PenS) (world scope room left stock : Addr) (W : List (Str × Nat)) (me : Str) (sc : List Str) (n : Int) (st : List Str) : Prop where
  g : GenAt H pen L ps world scope left stock W sc n st
  w : WorldOk W
  nm : NamesOk sc st
  n0 : 0 ≤ n
  rm : ∃ D : Int, H room = some (.lst [.int D, .ref left, .ref stock])
  fr : Fix pen left stock room
  me : me ∈ W.map (·.1)
  sc0 : sc ≠ []
  sc4 : sc.length ≤ 4
def spLoop : Sp := fun vs H Q _ => ∃ (pen L : Addr) (ps : PenS) (world scope room left stock : Addr) (W : List (Str × Nat)) (me : Str) (sc : List Str) (n : Int) (st : List Str), vs = [.ref pen, .ref world, .str me, .ref scope, .ref room] ∧
  LoopPre H pen L ps world scope room left stock W me sc n st ∧
  ∀ (v : V) (p : Part) (ps' : PenS) (n' : Int) (st' : List Str) (H' : Hp), loopM (partM W 12) me sc ⟨ps, n, st⟩ = (p, ⟨ps', n', st'⟩) → Tp H' v p.data → GenAt H' pen L ps' world scope left stock W sc n' st' → p.ok (W.map (·.1)) sc → p.deep ≤ 8 → (p.size : Int) + n' ≤ 16 + n → 0 ≤ n' → Used st st' p.rowNames → Chg3 pen left stock H H' → Q v H'
theorem pure_loop {K : PySem.W.Frag} {w : World} : PureOk 5 spLoop (t_law_loop K w (spPart 12) spDraw) 10 := by
  refine ⟨fun vs H Q E ⟨_, _, _, _, _, _, _, _, _, _, _, _, _, e, _⟩ => by rw [e]; rfl, ?_⟩
  rintro vs H Q E ⟨pen, L, ps, world, scope, room, left, stock, W, me, sc, n, st, rfl, h, q⟩
  show t_law_loop K w _ _ _ [some (.ref pen), some (.ref world), some (.str me), some (.ref scope), some (.ref room), none, none, none, none, none] H
  unfold t_law_loop
  obtain ⟨D, hrm⟩ := h.rm
  obtain ⟨x0, sc', hsc⟩ : ∃ x0 sc', sc = x0 :: sc' := by
    have := h.sc0
    cases sc with
    | nil => exact absurd rfl this
    | cons a b => exact ⟨a, b, rfl⟩
  have hx0 : ∀ {H' : Hp}, H' scope = some (.lst (sc.map V.str)) → ∃ xs, SqL K H' scope xs ∧ atI xs 0 = some (.str x0) := fun e => ⟨_, .of e, atI_of (by decide) (by rw [hsc]; rfl)⟩
  have hx0e : sc.headD "" = x0 := by rw [hsc]; rfl
  have hx0m : x0 ∈ sc := by rw [hsc]; simp
  have okx0 : x0 ∈ sc ∧ isName x0 := ⟨hx0m, h.nm.nsc x0 hx0m⟩
  have hmeN : isName me := by
    obtain ⟨p, hp, e⟩ := List.mem_map.mp h.me
    rw [← e]
    exact (h.w.2 p hp).1
  walk_at "go"
  intro a1 H1 na1 ea1 s1
  walk_at "go"
  have g1 := h.g.same s1
  obtain ⟨_, q1, q2⟩ := hx0 g1.gsc
  refine g_ixL q1 q2 ?_
  walk_at "go"
  intro a2 H2 na2 ea2 s2
  walk_at "go"
  intro a3 H3 na3 ea3 s3
  walk_at "go"
  intro a4 H4 na4 ea4 s4
  walk_at "go"
  intro a5 H5 na5 ea5 s5
  walk_at "go"
  have g5 := (((g1.same s2).same s3).same s4).same s5
  have t1 : Tp H5 (.ref a5) (Part.two .give (.fn me) (.two .less (.name x0) (.num 1))).data := by
    have k : Tk H1 H5 := ((Same.tk s2).trans (Same.tk s3)).trans ((Same.tk s4).trans (Same.tk s5))
    have k2 : Tk H2 H5 := (Same.tk s3).trans ((Same.tk s4).trans (Same.tk s5))
    have k3 : Tk H3 H5 := (Same.tk s4).trans (Same.tk s5)
    have k4 : Tk H4 H5 := Same.tk s5
    refine .tup ea5 (.cons (.str _) (.cons ((tp_fn ea1).mono k) (.one ?_)))
    refine .tup (k4 _ _ ea4) (.cons (.str _) (.cons ((tp_name ea2).mono k2) (.one ((tp_num ea3).mono k3))))
  have s05 : Same H H5 := (s1.trans (s2.trans (s3.trans (s4.trans s5))))
  clear na1 na2 na3 na4 na5 ea1 ea2 ea3 ea4 ea5 s1 s2 s3 s4 s5 g1 q1 q2
  refine g_seqL ?_
  walk_at "go"
  refine g_slL (.of g5.gsc) fun ls H6 nl el s6 => ?_
  rw [show (some (1 : Int)) = some ((1 : Nat) : Int) from rfl, cut_from 1 (by rw [hsc]; simp)] at el
  refine g_isL (.of el) ?_
  have hlr : (sc.drop 1).length ≤ 3 := by rw [List.length_drop]; have := h.sc4; omega
  have c6 : Chg3 pen left stock H H6 := .same (s05.trans s6)
  have g6 := g5.same s6
  have fl := g5.r.new nl
  refine for_any (sc.drop 1).length (fun i σ H' => ∃ (x y : Option V) (v : V) (p : Part) (ps' : PenS) (n' : Int) (st' : List Str), loopGivesM (partM W 12) sc (.two .give (.fn me) (.two .less (.name x0) (.num 1))) i ⟨ps, n, st⟩ = (p, ⟨ps', n', st'⟩) ∧ σ = [some (.ref pen), some (.ref world), some (.str me), some (.ref scope), some (.ref room), some v, x, y, none, none] ∧
      Tp H' v p.data ∧ GenAt H' pen L ps' world scope left stock W sc n' st' ∧ p.ok (W.map (·.1)) sc ∧ p.deep ≤ 3 + i ∧ (p.size : Int) + n' ≤ 5 + n + 2 * i ∧ 0 ≤ n' ∧ Used st st' p.rowNames ∧ Chg3 pen left stock H6 H')
    ⟨none, none, .ref a5, _, ps, n, st, rfl, rfl, t1.mono (Same.tk s6), g6, ⟨⟨h.me, hmeN⟩, okx0, by show (1 : Int).natAbs < _; decide⟩, by show 1 + max 1 (1 + max 1 1) ≤ _; omega, by show ((1 + (1 + (1 + (1 + 1))) : Nat) : Int) + _ ≤ _; omega, h.n0, .refl, .refl⟩
    (fun i σ H' hi ⟨_, _, _, _, _, _, _, _, _, _, _, _, _, _, _, _, c⟩ => ⟨_, _, .of (c _ _ fl el), List.getElem?_eq_getElem (by rw [List.length_map]; exact hi)⟩) (fun σ H' ⟨_, _, _, _, _, _, _, _, _, _, _, _, _, _, _, _, c⟩ => ⟨_, .of (c _ _ fl el), by rw [List.length_map]; exact Nat.le_refl _⟩) ?_ ?_
  · rintro i x σ _ H7 hi ⟨x6, x7, v, p, ps', n', st', eG, rfl, tv, g7, ok7, d7, z7, n7, u7, c7⟩ ⟨rfl, hx⟩
    obtain ⟨nm, hnmi, hnmx, rfl⟩ : ∃ nm, nm ∈ sc.drop 1 ∧ (sc.drop 1)[i]? = some nm ∧ x = .str nm := by
      have h1 := hx _ (.of (c7 _ _ fl el))
      rw [List.getElem?_map] at h1
      obtain ⟨nm, h2, h3⟩ := Option.map_eq_some_iff.mp h1
      exact ⟨nm, List.mem_of_getElem? h2, h2, h3.symm⟩
    have hnms : nm ∈ sc := List.mem_of_mem_drop hnmi
    have hr7 := c7 _ _ h.fr (c6 _ _ h.fr hrm)
    walk_at "go"
    intro rm2 H8 nr er s8
    walk_at "go"
    have g8 := g7.same s8
    have fr2 := g7.r.new nr
    refine ⟨pen, L, ps', world, scope, rm2, left, stock, W, sc, 2, n', st', "any", rfl, ⟨g8, h.w, h.nm.go u7, n7, er, fr2, by decide, by simp⟩, by decide, fun v2 p2 ps2 n2 st2 H9 e2 t2 g9 o9 c9 => ?_⟩
    have c9' : Chg3 pen left stock H7 H9 := .trans (.same s8) c9
    have tv9 := tv.mono (g7.r.tk c9' g9.r)
    walk_at "go"
    intro a10 H10 na10 ea10 s10
    walk_at "go"
    intro l11 H11 nl11 el11 s11
    walk_at "go"
    have g11 := (g9.same s10).same s11
    refine g_drawD g11.r.pd (by decide) (by decide) fun y sD H12 dD y0 y1 hP12 c12 => ?_
    have g12 := g11.draw hP12 c12
    have k12 : Tk H9 H12 := ((Same.tk s10).trans (Same.tk s11)).trans (g11.r.tk (.ofp c12) g12.r)
    have c12' : Chg3 pen left stock H7 H12 := c9'.trans (.trans (.same s10) (.trans (.same s11) (.ofp c12)))
    obtain ⟨v3, p3, hv3, tv3, ok3, d3, z3, u3, ep3⟩ : ∃ (v3 : V) (p3 : Part), atI [.ref a10, v2] y = some v3 ∧ Tp H12 v3 p3.data ∧ p3.ok (W.map (·.1)) sc ∧ p3.deep ≤ 3 ∧ (p3.size : Int) + n2 ≤ 1 + n' ∧ Used st' st2 p3.rowNames ∧ (if y = 0 then Part.name nm else p2) = p3 := by
      by_cases hy : y = 0
      · subst hy
        have := o9.size
        have := p2.size_pos
        refine ⟨.ref a10, .name nm, rfl, (tp_name ea10).mono ((Same.tk s11).trans (g11.r.tk (.ofp c12) g12.r)), ⟨hnms, h.nm.nsc _ hnms⟩, by show 1 ≤ 3; decide, by show ((1 : Nat) : Int) + _ ≤ _; omega, Used.left o9.names, rfl⟩
      · have hy1 : y = 1 := by omega
        subst hy1
        exact ⟨v2, p2, rfl, t2.mono k12, o9.ok, o9.deep, o9.size, o9.names, rfl⟩
    refine g_ixL (.of (c12 _ _ ((g9.same s10).r.new nl11).p el11)) hv3 ?_
    walk_at "go"
    intro a13 H13 na13 ea13 s13
    walk_at "go"
    refine ⟨_, _, .ref a13, .two .give p p3, sD, n2, st2, by rw [loopGivesM_succ eG e2 dD hnmx, ep3], rfl, ?_, g12.same s13, ⟨ok7, ok3⟩, ?_, ?_, o9.left, u7.app u3 h.nm.nd, c7.trans (c12'.trans (.same s13))⟩
    · exact .tup ea13 (.cons (.str _) (.cons ((tv9.mono k12).mono (Same.tk s13)) (.one (tv3.mono (Same.tk s13)))))
    · show 1 + max _ _ ≤ _
      omega
    · show ((1 + (p.size + p3.size) : Nat) : Int) + _ ≤ _
      omega
  rintro σ H7 ⟨x6, x7, v, p, ps', n', st', eG, rfl, tv, g7, ok7, d7, z7, n7, u7, c7⟩
  have hr7 := c7 _ _ h.fr (c6 _ _ h.fr hrm)
  walk_at "go"
  intro rm2 H8 nr er s8
  walk_at "go"
  have g8 := g7.same s8
  have fr2 := g7.r.new nr
  refine ⟨pen, L, ps', world, scope, rm2, left, stock, W, sc, 3, n', st', "number", rfl, ⟨g8, h.w, h.nm.go u7, n7, er, fr2, by decide, by simp⟩, by decide, fun v2 p2 ps2 n2 st2 H9 e2 t2 g9 o9 c9 => ?_⟩
  have c9' : Chg3 pen left stock H7 H9 := .trans (.same s8) c9
  have tv9 := tv.mono (g7.r.tk c9' g9.r)
  have hd2 : p2.deep ≤ 4 := o9.deep
  have hz2 := o9.size
  walk_at "go"
  intro a10 H10 na10 ea10 s10
  walk_at "go"
  intro a11 H11 na11 ea11 s11
  walk_at "go"
  intro a12 H12 na12 ea12 s12
  walk_at "go"
  intro l13 H13 nl13 el13 s13
  walk_at "go"
  have s913 : Same H9 H13 := s10.trans (s11.trans (s12.trans s13))
  have g13 := g9.same s913
  have g12 := g9.same (s10.trans (s11.trans s12))
  refine g_drawD g13.r.pd (by decide) (by decide) fun y sD H14 dD y0 y1 hP14 c14 => ?_
  have g14 := g13.draw hP14 c14
  have k1314 := g13.r.tk (.ofp c14) g14.r
  have k14 : Tk H9 H14 := (Same.tk s913).trans k1314
  have c14' : Chg3 pen left stock H7 H14 := c9'.trans (.trans (.same s913) (.ofp c14))
  have tv14 := tv9.mono k14
  have t214 := t2.mono k14
  obtain ⟨v3, p3, hv3, tv3, ok3, d3, z3, u3, ep3⟩ : ∃ (v3 : V) (p3 : Part), atI [v, .ref a10, .ref a11, .ref a12] y = some v3 ∧ Tp H14 v3 p3.data ∧ p3.ok (W.map (·.1)) sc ∧ p3.deep ≤ 7 ∧ (p3.size : Int) + n2 ≤ 2 + (p.size : Int) + n' ∧ Used st st2 p3.rowNames ∧ moreAt y p p2 = p3 := by
    have := p2.size_pos
    obtain rfl | rfl | rfl | rfl : y = 0 ∨ y = 1 ∨ y = 2 ∨ y = 3 := by omega
    · exact ⟨v, p, rfl, tv14, ok7, by omega, by omega, Used.fst u7 o9.names, rfl⟩
    · refine ⟨.ref a10, .two .plus p2 p, rfl, .tup (k1314 _ _ (s13 _ _ (s12 _ _ (s11 _ _ ea10)))) (.cons (.str _) (.cons t214 (.one tv14))), ⟨o9.ok, ok7⟩, by show 1 + max _ _ ≤ _; omega, by show ((1 + (p2.size + p.size) : Nat) : Int) + _ ≤ _; omega, Used.swap u7 o9.names h.nm.nd, rfl⟩
    · refine ⟨.ref a11, .two .pair p2 p, rfl, .tup (k1314 _ _ (s13 _ _ (s12 _ _ ea11))) (.cons (.str _) (.cons t214 (.one tv14))), ⟨o9.ok, ok7⟩, by show 1 + max _ _ ≤ _; omega, by show ((1 + (p2.size + p.size) : Nat) : Int) + _ ≤ _; omega, Used.swap u7 o9.names h.nm.nd, rfl⟩
    · refine ⟨.ref a12, .two .plus p p2, rfl, .tup (k1314 _ _ (s13 _ _ ea12)) (.cons (.str _) (.cons tv14 (.one t214))), ⟨ok7, o9.ok⟩, by show 1 + max _ _ ≤ _; omega, by show ((1 + (p.size + p2.size) : Nat) : Int) + _ ≤ _; omega, Used.app u7 o9.names h.nm.nd, rfl⟩
  refine g_ixL (.of (c14 _ _ (g12.r.new nl13).p el13)) hv3 ?_
  walk_at "go"
  obtain ⟨_, q1, q2⟩ := hx0 g14.gsc
  refine g_ixL q1 q2 ?_
  walk_at "go"
  intro a15 H15 na15 ea15 s15
  walk_at "go"
  have hr15 := s15 _ _ (c14' _ _ h.fr hr7)
  walk_at "go"
  intro rm3 H16 nr3 er3 s16
  walk_at "go"
  have g15 := g14.same s15
  have g16 := g15.same s16
  have fr3 := g15.r.new nr3
  have u9 : Used st st2 [] := Used.left u3
  refine ⟨pen, L, sD, world, scope, rm3, left, stock, W, sc, 3, n2, st2, "number", rfl, ⟨g16, h.w, h.nm.go u9, o9.left, er3, fr3, by decide, by simp⟩, by decide, fun v4 p4 ps4 n4 st4 H17 e4 t4 g17 o17 c17 => ?_⟩
  walk_at "go"
  intro a18 H18 na18 ea18 s18
  have c17' : Chg3 pen left stock H15 H17 := .trans (.same s16) c17
  have k17 := g15.r.tk c17' g17.r
  have hd4 : p4.deep ≤ 4 := o17.deep
  have hz4 := o17.size
  refine q (.ref a18) (.whn (.name x0) p3 p4) ps4 n4 st4 H18 (by unfold loopM; rw [hx0e, eG]; dsimp only; rw [e2]; dsimp only; rw [dD]; dsimp only; rw [e4]; dsimp only; rw [ep3]) ?_ (g17.same s18) ⟨okx0, ok3, o17.ok⟩ ?_ ?_ o17.left (show Used st st4 (p3.rowNames ++ p4.rowNames) from Used.app u3 o17.names h.nm.nd) (c6.trans (c7.trans (c14'.trans (.trans (.same s15) (c17'.trans (.same s18))))))
  · exact .tup ea18 (.cons (.str _) (.cons (((tp_name ea15).mono k17).mono (Same.tk s18)) (.cons (((tv3.mono (Same.tk s15)).mono k17).mono (Same.tk s18)) (.one (t4.mono (Same.tk s18))))))
  · show 1 + max 1 (max _ _) ≤ _
    omega
  · show ((1 + (1 + (p3.size + p4.size)) : Nat) : Int) + _ ≤ _
    omega

/-! ### a body -/
structure BodyAt (H : Hp) (pen L : Addr) (ps : PenS) (world scope stock : Addr) (W : List (Str × Nat)) (sc st : List Str) : Prop where
  pd : PenD H pen L ps
  w : WorldAt H world W
  gsc : H scope = some (.lst (sc.map V.str))
  sk : H stock = some (.lst (st.map V.str))
  wp : world ≠ pen
  ws : world ≠ stock
  cp : scope ≠ pen
  cs : scope ≠ stock
  sp : stock ≠ pen
  sL : stock ≠ L
structure BodyOk (W : List (Str × Nat)) (me : Str) (sc st : List Str) : Prop where
  w : WorldOk W
  nm : NamesOk sc st
  me : me = "" ∨ me ∈ W.map (·.1)
  sc4 : sc.length ≤ 4
/-- all but the pen and the stock stay -/
def Chg2 (pen stock : Addr) (H H' : Hp) : Prop := ∀ b o, b ≠ pen → b ≠ stock → H b = some o → H' b = some o
section
variable {H H' H1 H2 : Hp} {pen L world scope stock l rm : Addr} {ps ps' : PenS} {W : List (Str × Nat)} {me : Str} {sc st : List Str} {n D : Int}
theorem BodyAt.pe (h : BodyAt H pen L ps world scope stock W sc st) : PenAt H pen L := h.pd.pe
theorem BodyAt.same (h : BodyAt H pen L ps world scope stock W sc st) (s : Same H H') : BodyAt H' pen L ps world scope stock W sc st :=
  ⟨h.pd.same s, h.w.mono (Same.tk s) (fun o e => s _ _ e), s _ _ h.gsc, s _ _ h.sk, h.wp, h.ws, h.cp, h.cs, h.sp, h.sL⟩
theorem PenAt.tk (h : PenAt H pen L) (c : Chg pen H H') : Tk H H' := by
  obtain ⟨ns, a, r, hp, _⟩ := h
  exact c.tkl hp
theorem BodyAt.draw (h : BodyAt H pen L ps world scope stock W sc st) (p : PenD H' pen L ps') (c : Chg pen H H') : BodyAt H' pen L ps' world scope stock W sc st :=
  ⟨p, h.w.mono (h.pe.tk c) (fun o e => c _ _ h.wp e), c _ _ h.cp h.gsc, c _ _ h.sp h.sk, h.wp, h.ws, h.cp, h.cs, h.sp, h.sL⟩
/-- with a list of what is left, a room -/
theorem BodyAt.gen (h : BodyAt H pen L ps world scope stock W sc st) (hl : H l = none) (el : H1 l = some (.lst [.int n])) (s1 : Same H H1) (s2 : Same H1 H2) : GenAt H2 pen L ps world scope l stock W sc n st := by
  have h1 := (h.same s1).same s2
  have hp := h.pd.hp
  have hL := h.pd.hL
  obtain ⟨xs, hw, _⟩ := h.w
  exact ⟨⟨h1.pd, s2 _ _ el, h1.sk, (ne_of_none hp hl).symm, (ne_of_none hL hl).symm, h.sp, h.sL, (ne_of_none h.sk hl).symm⟩, h1.w, h1.gsc, ⟨h.wp, ne_of_none hw hl, h.ws⟩, ⟨h.cp, ne_of_none h.gsc hl, h.cs⟩⟩
end
def fewM (f : Part) : Nat → PenS → Part × PenS
  | 0, s => (f, s)
  | i + 1, s => match fewM f i s with
    | (p, s1) => match s1.draw 8 with
      | (y, s2) => (.two .give p (.num y), s2)
theorem fewM_succ {f p : Part} {i : Nat} {s s1 s2 : PenS} {y : Int} (h1 : fewM f i s = (p, s1)) (h2 : s1.draw 8 = (y, s2)) : fewM f (i + 1) s = (.two .give p (.num y), s2) := by
  rw [fewM, h1]; dsimp only
  rw [h2]
def outM (x : Part × GS) : Part × PenS := (x.1, x.2.s)
def bodyD (W : List (Str × Nat)) (me : Str) (sc st : List Str) (D n : Int) (s : PenS) : Part × PenS :=
  if me = "" then
    (if W = [] then outM (partM W 12 sc D "any" ⟨s, n, st⟩)
    else match s.draw 2 with
      | (y, s1) => if y = 0 then fewM (.fn (atW W 0).1) (atW W 0).2 s1 else outM (partM W 12 sc D "any" ⟨s1, n, st⟩))
  else if sc = [] then outM (partM W 12 sc D "any" ⟨s, n, st⟩)
  else match s.draw 3 with
    | (y, s1) => if y = 0 then outM (loopM (partM W 12) me sc ⟨s1, min n 40, st⟩) else outM (partM W 12 sc D "any" ⟨s1, n, st⟩)
def drawnM (W : List (Str × Nat)) (me : Str) (sc st : List Str) (s : PenS) : Part × PenS :=
  match s.draw 4 with
  | (y, s1) => match s1.draw 6 with
    | (z, s2) => bodyD W me sc st (intAt [V.int 2, V.int 7, V.int 9, V.int 11] y) (intAt [V.int 2, V.int 7, V.int 14, V.int 24, V.int 40, V.int 59] z) s2
def spBody : Sp := fun vs H Q _ => ∃ (pen L : Addr) (ps : PenS) (world scope stock : Addr) (W : List (Str × Nat)) (me : Str) (sc st : List Str), vs = [.ref pen, .ref world, .str me, .ref scope, .ref stock] ∧ BodyAt H pen L ps world scope stock W sc st ∧ BodyOk W me sc st ∧
  ∀ (v : V) (p : Part) (ps' : PenS) (H' : Hp), drawnM W me sc st ps = (p, ps') → Tp H' v p.data → PenD H' pen L ps' → p.ok (W.map (·.1)) sc → p.deep ≤ 12 → p.size ≤ 60 → p.rowNames.Nodup → (∀ x ∈ p.rowNames, x ∈ st) → Chg2 pen stock H H' → Q v H'
theorem pure_body {K : PySem.W.Frag} {w : World} : PureOk 5 spBody (t_law_body K w spDraw spLoop (spPart 12)) 9 := by
  refine ⟨fun vs H Q E ⟨_, _, _, _, _, _, _, _, _, _, e, _⟩ => by rw [e]; rfl, ?_⟩
  rintro vs H Q E ⟨pen, L, ps, world, scope, stock, W, me, sc, st, rfl, h, hO, q⟩
  show t_law_body K w _ _ _ _ [some (.ref pen), some (.ref world), some (.str me), some (.ref scope), some (.ref stock), none, none, none, none] H
  unfold t_law_body
  walk_at "go"
  intro l1 H1 nl1 el1 s1
  walk_at "go"
  have b1 := h.same s1
  refine g_drawD b1.pd (by decide) (by decide) fun y sA H2 dA y0 y1 hP2 c2 => ?_
  obtain ⟨D, hD, hD0, hD1⟩ : ∃ D : Int, atI [V.int 2, V.int 7, V.int 9, V.int 11] y = some (.int D) ∧ 0 ≤ D ∧ D ≤ 11 := by
    obtain rfl | rfl | rfl | rfl : y = 0 ∨ y = 1 ∨ y = 2 ∨ y = 3 := by omega
    all_goals exact ⟨_, rfl, by decide, by decide⟩
  refine g_ixL (.of (c2 _ _ (h.pe.ne nl1).1.symm el1)) hD ?_
  have b2 := b1.draw hP2 c2
  walk_at "go"
  intro l3 H3 nl3 el3 s3
  walk_at "go"
  have b3 := b2.same s3
  refine g_drawD b3.pd (by decide) (by decide) fun z sB H4 dB z0 z1 hP4 c4 => ?_
  obtain ⟨n, hn, hn0, hn1⟩ : ∃ n : Int, atI [V.int 2, V.int 7, V.int 14, V.int 24, V.int 40, V.int 59] z = some (.int n) ∧ 0 ≤ n ∧ n ≤ 59 := by
    obtain rfl | rfl | rfl | rfl | rfl | rfl : z = 0 ∨ z = 1 ∨ z = 2 ∨ z = 3 ∨ z = 4 ∨ z = 5 := by omega
    all_goals exact ⟨_, rfl, by decide, by decide⟩
  refine g_ixL (.of (c4 _ _ (b2.pe.ne nl3).1.symm el3)) hn ?_
  have b4 := b3.draw hP4 c4
  have ebody : drawnM W me sc st ps = bodyD W me sc st D n sB := by
    unfold drawnM
    rw [dA]; dsimp only
    rw [dB]; dsimp only
    rw [show intAt [V.int 2, V.int 7, V.int 9, V.int 11] y = D from by unfold intAt; rw [hD], show intAt [V.int 2, V.int 7, V.int 14, V.int 24, V.int 40, V.int 59] z = n from by unfold intAt; rw [hn]]
  have c04 : Chg2 pen stock H H4 := fun b o n1 n2 e => c4 b o n1 (s3 b o (c2 b o n1 (s1 b o e)))
  -- the end that most ways have
  have fin : ∀ {H8 H9 H10 : Hp} {ps8 : PenS} {l rm : Addr}, bodyD W me sc st D n sB = outM (partM W 12 sc D "any" ⟨ps8, n, st⟩) → BodyAt H8 pen L ps8 world scope stock W sc st → Chg2 pen stock H H8 → H8 l = none → H9 l = some (.lst [.int n]) → Same H8 H9 → H9 rm = none → H10 rm = some (.lst [.int D, .ref l, .ref stock]) → Same H9 H10 →
      spPart 12 ([.ref pen, .ref world, .ref scope, .ref rm, .str "any"] ++ []) H10 Q E0 := by
    intro H8 H9 H10 ps8 l rm eb b8 c8 hl el s9 hrm er s10
    have g10 := b8.gen hl el s9 s10
    have g9 := b8.gen hl el s9 (fun _ _ e => e)
    refine ⟨pen, L, ps8, world, scope, rm, l, stock, W, sc, D, n, st, "any", rfl, ⟨g10, hO.w, hO.nm, hn0, er, g9.r.new hrm, hD0, by simp⟩, by omega, fun v p ps' n' st' H' e t g o c => ?_⟩
    obtain ⟨u, hu, hu1, hu2⟩ := o.names
    have := o.deep
    have := o.size
    have := o.left
    exact q v p ps' H' (by rw [ebody, eb, e]; rfl) t g.r.pd o.ok (by omega) (by omega) hu1 (fun x hx => by rw [hu]; exact List.mem_append.mpr (.inr (hu2 x hx))) (fun b o n1 n2 e => c b o ⟨n1, ne_of_none (c8 b o n1 n2 e) hl, n2⟩ (s10 b o (s9 b o (c8 b o n1 n2 e))))
  clear hD hn z0 z1 y0 y1 c4 s3 c2 s1 el1 el3
  walk_at "go"
  by_cases hme : me = ""
  · -- what is asked
    subst hme
    refine g_F rfl ?_
    refine g_F rfl ?_
    walk_at "go"
    refine g_T rfl ?_
    walk_at "go"
    intro l5 H5 nl5 el5 s5
    have b5 := b4.same s5
    have c05 : Chg2 pen stock H H5 := fun b o n1 n2 e => s5 b o (c04 b o n1 n2 e)
    obtain ⟨wx, hw, tw⟩ := b5.w
    refine g_neD (.lst (.of hw) (Tps.dp tw)) (.lst (.of el5) .nil) (shaped_world hO.w) shaped_nil ?_
    rw [eqv_nil]
    walk_at "go"
    refine g_ite (fun hne => ?_) (fun hne => ?_)
    rotate_left
    · refine g_F rfl ?_
      walk_at "go"
      intro l H9 hl el s9
      walk_at "go"
      intro rm H10 hrm er s10
      walk_at "go"
      exact fin (by unfold bodyD; rw [if_pos rfl, if_pos (by cases W with | nil => rfl | cons x l => simp at hne)]) b5 c05 hl el s9 hrm er s10
    have hW0 : W ≠ [] := by rintro rfl; simp at hne
    walk_at "go"
    refine g_drawD b5.pd (by decide) (by decide) fun y sC H6 dC y0 y1 hP6 c6 => ?_
    have b6 := b5.draw hP6 c6
    have c06 : Chg2 pen stock H H6 := fun b o n1 n2 e => c6 b o n1 (c05 b o n1 n2 e)
    walk_at "go"
    refine g_ite (fun hy => ?_) (fun hy => ?_)
    rotate_left
    · walk_at "go"
      intro l H9 hl el s9
      walk_at "go"
      intro rm H10 hrm er s10
      walk_at "go"
      exact fin (by unfold bodyD; rw [if_pos rfl, if_neg hW0, dC]; dsimp only; rw [if_neg (of_decide_eq_false hy)]) b6 c06 hl el s9 hrm er s10
    obtain ⟨f, k, W', hW⟩ : ∃ f k W', W = (f, k) :: W' := by
      cases W with
      | nil => simp at hne
      | cons x l => exact ⟨x.1, x.2, l, rfl⟩
    have hfW : (f, k) ∈ W := by rw [hW]; simp
    have efew : bodyD W "" sc st D n sB = fewM (.fn f) k sC := by
      have e0 : atW W 0 = (f, k) := by rw [hW]; rfl
      unfold bodyD
      rw [if_pos rfl, if_neg hW0, dC]; dsimp only
      rw [if_pos (of_decide_eq_true hy), e0]
    have first : ∀ {H' : Hp}, WorldAt H' world W → ∃ xs a, SqL K H' world xs ∧ atI xs 0 = some (.ref a) ∧ SqT K H' a [.str f, .int k] := by
      rintro H' ⟨xs, hx, tx⟩
      rw [hW] at tx
      cases tx with
      | cons t _ =>
        cases t with
        | tup et rt =>
          cases rt with
          | cons t1 rt =>
          cases t1
          cases rt with
          | cons t2 rt =>
          cases t2
          cases rt
          exact ⟨_, _, .of hx, atI_of (by decide) rfl, .of et⟩
    walk_at "go"
    obtain ⟨_, _, i1, i2, i3⟩ := first b6.w
    refine g_ixL i1 i2 ?_
    walk_at "go"
    refine g_ixT i3 (atI_of (by decide) rfl) ?_
    walk_at "go"
    intro a7 H7 na7 ea7 s7
    walk_at "go"
    have b7 := b6.same s7
    obtain ⟨_, _, j1, j2, j3⟩ := first b7.w
    refine g_ixL j1 j2 ?_
    walk_at "go"
    refine g_ixT j3 (atI_of (by decide) rfl) ?_
    walk_at "go"
    have hk : k ≤ 4 := (hO.w.2 _ hfW).2
    refine g_isrng (by omega) (by omega) ?_
    refine for_any k (fun i σ H' => ∃ (x : Option V) (v : V) (p : Part) (ps' : PenS), fewM (.fn f) i sC = (p, ps') ∧ σ = [some (.ref pen), some (.ref world), some (.str ""), some (.ref scope), some (.ref stock), some (.int D), some (.int n), some v, x] ∧
        Tp H' v p.data ∧ PenD H' pen L ps' ∧ p.ok (W.map (·.1)) sc ∧ p.deep ≤ 1 + i ∧ p.size ≤ 1 + 2 * i ∧ p.rowNames = [] ∧ Chg2 pen stock H7 H')
      ⟨none, _, .fn f, sC, rfl, rfl, tp_fn ea7, b7.pd, ⟨List.mem_map.mpr ⟨_, hfW, rfl⟩, (hO.w.2 _ hfW).1⟩, by show 1 ≤ _; omega, by show 1 ≤ _; omega, rfl, fun b o _ _ e => e⟩
      (fun i σ H' hi _ => (by show (i : Nat) < _; omega)) (fun σ H' _ => (by show _ ≤ (k : Nat); omega)) ?_ ?_
    · rintro i x σ _ H8 hi ⟨x8, v, p, ps', eF, rfl, tv, hP8, ok8, d8, z8, r8, c8⟩ ⟨rfl, rfl⟩
      walk_at "go"
      refine g_drawD hP8 (by decide) (by decide) fun y sD H9 dD y0 y1 hP9 c9 => ?_
      walk_at "go"
      intro a10 H10 na10 ea10 s10
      walk_at "go"
      intro a11 H11 na11 ea11 s11
      walk_at "go"
      refine ⟨_, _, .two .give p (.num y), sD, fewM_succ eF dD, rfl, ?_, (hP9.same s10).same s11, ⟨ok8, by show y.natAbs < 10 ^ 60; omega⟩, ?_, ?_, ?_, fun b o n1 n2 e => s11 b o (s10 b o (c9 b o n1 (c8 b o n1 n2 e)))⟩
      · exact .tup ea11 (.cons (.str _) (.cons (((tv.mono (hP8.pe.tk c9)).mono (Same.tk s10)).mono (Same.tk s11)) (.one ((tp_num ea10).mono (Same.tk s11)))))
      · show 1 + max _ 1 ≤ _
        omega
      · show 1 + (_ + 1) ≤ _
        omega
      · show p.rowNames ++ [] = []
        rw [r8]
        rfl
    · rintro σ H8 ⟨x8, v, p, ps', eF, rfl, tv, hP8, ok8, d8, z8, r8, c8⟩
      walk_at "go"
      exact q v p ps' H8 (by rw [ebody, efew]; exact eF) tv hP8 ok8 (by omega) (by omega) (by rw [r8]; exact List.nodup_nil) (by rw [r8]; simp) (fun b o n1 n2 e => c8 b o n1 n2 (s7 b o (c06 b o n1 n2 e)))
  · -- a function's
    refine g_T (by rw [decide_eq_false hme]; rfl) ?_
    walk_at "go"
    intro l5 H5 nl5 el5 s5
    have b5 := b4.same s5
    have c05 : Chg2 pen stock H H5 := fun b o n1 n2 e => s5 b o (c04 b o n1 n2 e)
    refine g_neD (.lst (.of b5.gsc) (Tps.dp (Tps.strs sc))) (.lst (.of el5) .nil) (shaped_names hO.nm.nsc) shaped_nil ?_
    rw [eqv_nil]
    walk_at "go"
    have meW : me ∈ W.map (·.1) := hO.me.elim (fun e => absurd e hme) id
    refine g_ite (fun hne => ?_) (fun hne => ?_)
    rotate_left
    · refine g_F rfl ?_
      walk_at "go"
      refine g_F (decide_eq_false hme) ?_
      refine g_F rfl ?_
      walk_at "go"
      intro l H9 hl el s9
      walk_at "go"
      intro rm H10 hrm er s10
      walk_at "go"
      exact fin (by unfold bodyD; rw [if_neg hme, if_pos (by cases sc with | nil => rfl | cons x l => simp at hne)]) b5 c05 hl el s9 hrm er s10
    have hsc0 : sc ≠ [] := by rintro rfl; simp at hne
    walk_at "go"
    refine g_drawD b5.pd (by decide) (by decide) fun y sC H6 dC y0 y1 hP6 c6 => ?_
    have b6 := b5.draw hP6 c6
    have c06 : Chg2 pen stock H H6 := fun b o n1 n2 e => c6 b o n1 (c05 b o n1 n2 e)
    walk_at "go"
    refine g_ite (fun hy => ?_) (fun hy => ?_)
    rotate_left
    · walk_at "go"
      refine g_F (decide_eq_false hme) ?_
      refine g_F rfl ?_
      walk_at "go"
      intro l H9 hl el s9
      walk_at "go"
      intro rm H10 hrm er s10
      walk_at "go"
      exact fin (by unfold bodyD; rw [if_neg hme, if_neg hsc0, dC]; dsimp only; rw [if_neg (of_decide_eq_false hy)]) b6 c06 hl el s9 hrm er s10
    walk_at "go"
    intro l H9 hl el s9
    walk_at "go"
    intro rm H10 hrm er s10
    walk_at "go"
    have g10 := b6.gen hl el s9 s10
    have g9 := b6.gen hl el s9 (fun _ _ e => e)
    refine ⟨pen, L, sC, world, scope, rm, l, stock, W, me, sc, min n 40, st, rfl, ⟨g10, hO.w, hO.nm, by omega, ⟨D, er⟩, g9.r.new hrm, meW, by rintro rfl; simp at hne, hO.sc4⟩, fun v p ps' n' st' H' e t g ok d z n0 u c => ?_⟩
    obtain ⟨u1, hu, hu1, hu2⟩ := u
    exact q v p ps' H' (by rw [ebody]; unfold bodyD; rw [if_neg hme, if_neg hsc0, dC]; dsimp only; rw [if_pos (of_decide_eq_true hy), e]; rfl) t g.r.pd ok (by omega) (by omega) hu1 (fun x hx => by rw [hu]; exact List.mem_append.mpr (.inr (hu2 x hx))) (fun b o n1 n2 e => c b o ⟨n1, ne_of_none (c06 b o n1 n2 e) hl, n2⟩ (s10 b o (s9 b o (c06 b o n1 n2 e))))

/-! ### a program -/
section
variable {K : PySem.W.Frag} {σ : L2.St} {H : Hp} {Q : L2.St → Hp → Prop} {a : Addr} {x y z : V} {i j k : Nat}
theorem g_un2 (h : H a = some (.tup [x, y])) (q : Q ((σ.set i (some x)).set j (some y)) H) : gTup K 2 (gCons (gName i) (gCons (gName j) gNil)) (.ref a) σ H Q :=
  ⟨a, _, rfl, .of h, rfl, x, _, rfl, y, _, rfl, rfl, q⟩
theorem g_un3 (h : H a = some (.tup [x, y, z])) (q : Q (((σ.set i (some x)).set j (some y)).set k (some z)) H) : gTup K 3 (gCons (gName i) (gCons (gName j) (gCons (gName k) gNil))) (.ref a) σ H Q :=
  ⟨a, _, rfl, .of h, rfl, x, _, rfl, y, _, rfl, z, _, rfl, rfl, q⟩
theorem Tp.tup_inv {v : V} {ds : List PyData} (h : Tp H v (.tuple ds)) : ∃ a xs, v = .ref a ∧ H a = some (.tup xs) ∧ Tps H xs ds := by
  cases h with
  | tup e r => exact ⟨_, _, rfl, e, r⟩
theorem Tps.cons_inv {vs : List V} {d : PyData} {ds : List PyData} (h : Tps H vs (d :: ds)) : ∃ v us, vs = v :: us ∧ Tp H v d ∧ Tps H us ds := by
  cases h with
  | cons a b => exact ⟨_, _, rfl, a, b⟩
theorem Tps.nil_inv {vs : List V} (h : Tps H vs []) : vs = [] := by
  cases h
  rfl
theorem Tp.str_inv {v : V} {s : Str} (h : Tp H v (.str s)) : v = .str s := by
  cases h
  rfl
theorem Tp.int_inv {v : V} {n : Int} (h : Tp H v (.int n)) : v = .int n := by
  cases h
  rfl
/-- a tuple of two -/
theorem Tp.two {v : V} {d e : PyData} (h : Tp H v (.tuple [d, e])) : ∃ a x y, v = .ref a ∧ H a = some (.tup [x, y]) ∧ Tp H x d ∧ Tp H y e := by
  obtain ⟨a, xs, rfl, h1, h2⟩ := h.tup_inv
  obtain ⟨x, us, rfl, tx, h3⟩ := h2.cons_inv
  obtain ⟨y, us, rfl, ty, h4⟩ := h3.cons_inv
  rw [h4.nil_inv] at h1
  exact ⟨a, x, y, rfl, h1, tx, ty⟩
theorem Tp.three {v : V} {d e f : PyData} (h : Tp H v (.tuple [d, e, f])) : ∃ a x y z, v = .ref a ∧ H a = some (.tup [x, y, z]) ∧ Tp H x d ∧ Tp H y e ∧ Tp H z f := by
  obtain ⟨a, xs, rfl, h1, h2⟩ := h.tup_inv
  obtain ⟨x, us, rfl, tx, h3⟩ := h2.cons_inv
  obtain ⟨y, us, rfl, ty, h4⟩ := h3.cons_inv
  obtain ⟨z, us, rfl, tz, h5⟩ := h4.cons_inv
  rw [h5.nil_inv] at h1
  exact ⟨a, x, y, z, rfl, h1, tx, ty, tz⟩
end
structure Fn1 where
  name : Str
  things : List Str
  body : Part
def Fn1.data (f : Fn1) : PyData := .tuple [.str f.name, .tuple (f.things.map .str), f.body.data]
structure Prog where
  fs : List Fn1
  asked : Part
def Prog.data (P : Prog) : PyData := .tuple [.tuple (P.fs.map Fn1.data), P.asked.data]
def Prog.names (P : Prog) : List Str := P.fs.map (·.name)
structure Part.fine (fs sc : List Str) (p : Part) : Prop where
  ok : p.ok fs sc
  deep : p.deep ≤ 12
  size : p.size ≤ 60
  nd : p.rowNames.Nodup
  un : ∀ x ∈ p.rowNames, isName x ∧ x ∉ sc
structure Fn1.fine (fs : List Str) (f : Fn1) : Prop where
  nm : isName f.name
  few : f.things.length ≤ 4
  nd : f.things.Nodup
  th : ∀ x ∈ f.things, isName x
  body : f.body.fine fs f.things
structure Prog.fine (P : Prog) : Prop where
  few : P.fs.length ≤ 8
  nd : P.names.Nodup
  fs : ∀ f ∈ P.fs, f.fine P.names
  asked : P.asked.fine P.names []
def worldM (ss : List Str) : Nat → PenS → List (Str × Nat) × PenS
  | 0, s => ([], s)
  | i + 1, s => match worldM ss i s with
    | (W, s1) => match s1.draw 7 with
      | (y, s2) => (W ++ [((ss[i]?).getD "", (intAt [V.int 1, V.int 0, V.int 1, V.int 2, V.int 2, V.int 3, V.int 4] y).toNat)], s2)
theorem worldM_succ {ss : List Str} {i k : Nat} {s s1 s2 : PenS} {W : List (Str × Nat)} {y : Int} {nm : Str} (h1 : worldM ss i s = (W, s1)) (h2 : s1.draw 7 = (y, s2)) (h3 : ss[i]? = some nm) (h4 : atI [V.int 1, V.int 0, V.int 1, V.int 2, V.int 2, V.int 3, V.int 4] y = some (.int k)) :
    worldM ss (i + 1) s = (W ++ [(nm, k)], s2) := by
  rw [worldM, h1]; dsimp only
  rw [h2]; dsimp only
  rw [h3, show intAt [V.int 1, V.int 0, V.int 1, V.int 2, V.int 2, V.int 3, V.int 4] y = k from by unfold intAt; rw [h4]]
  rfl
def fnsM (W : List (Str × Nat)) : Nat → PenS → List Fn1 × PenS
  | 0, s => ([], s)
  | i + 1, s => match fnsM W i s with
    | (fs, s1) => match namesM 26 s1 with
      | (ns, s2) =>
        match drawnM W (atW W i).1 (ns.take (atW W i).2) (ns.drop (atW W i).2) s2 with
        | (p, s3) => (fs ++ [⟨(atW W i).1, ns.take (atW W i).2, p⟩], s3)
theorem fnsM_succ {W : List (Str × Nat)} {i k : Nat} {f : Str} {s s1 s2 s3 : PenS} {fs : List Fn1} {ns : List Str} {p : Part} (h1 : fnsM W i s = (fs, s1)) (h2 : namesM 26 s1 = (ns, s2)) (h3 : W[i]? = some (f, k)) (h4 : drawnM W f (ns.take k) (ns.drop k) s2 = (p, s3)) :
    fnsM W (i + 1) s = (fs ++ [⟨f, ns.take k, p⟩], s3) := by
  have e : atW W (i : Int) = (f, k) := by unfold atW; rw [Int.toNat_natCast, h3]; rfl
  show (match fnsM W i s with
    | (fs, s1) => match namesM 26 s1 with
      | (ns, s2) =>
        match drawnM W (atW W i).1 (ns.take (atW W i).2) (ns.drop (atW W i).2) s2 with
        | (p, s3) => (fs ++ [Fn1.mk (atW W i).1 (ns.take (atW W i).2) p], s3)) = _
  simp only [h1, h2, e, h4]
def programM (s : PenS) : Prog × PenS :=
  match s.draw 8 with
  | (y, s1) => match namesM (intAt [V.int 0, V.int 1, V.int 2, V.int 3, V.int 4, V.int 2, V.int 3, V.int 8] y) s1 with
    | (ss, s2) => match worldM ss ss.length s2 with
      | (W, s3) => match fnsM W W.length s3 with
        | (fs, s4) => match namesM 26 s4 with
          | (ns, s5) => match drawnM W "" [] ns s5 with
            | (p, s6) => (⟨fs, p⟩, s6)
theorem programM_mk {s s1 s2 s3 s4 s5 s6 : PenS} {y many : Int} {ss ns : List Str} {W : List (Str × Nat)} {fs : List Fn1} {p : Part} (h1 : s.draw 8 = (y, s1)) (hm : atI [V.int 0, V.int 1, V.int 2, V.int 3, V.int 4, V.int 2, V.int 3, V.int 8] y = some (.int many)) (h2 : namesM many s1 = (ss, s2))
    (h3 : worldM ss ss.length s2 = (W, s3)) (h4 : fnsM W W.length s3 = (fs, s4)) (h5 : namesM 26 s4 = (ns, s5)) (h6 : drawnM W "" [] ns s5 = (p, s6)) : programM s = (⟨fs, p⟩, s6) := by
  have e : intAt [V.int 0, V.int 1, V.int 2, V.int 3, V.int 4, V.int 2, V.int 3, V.int 8] y = many := by unfold intAt; rw [hm]
  simp only [programM, h1, e, h2, h3, h4, h5, h6]
def spProgram : Sp := fun vs H Q _ => ∃ (pen L : Addr) (ps : PenS), vs = [.ref pen] ∧ PenD H pen L ps ∧
  ∀ (v : V) (P : Prog) (ps' : PenS) (H' : Hp), programM ps = (P, ps') → Tp H' v P.data → P.fine → PenD H' pen L ps' → Chg pen H H' → Q v H'
theorem spNames_mk {pen L : Addr} {ps : PenS} {many : Int} {H : Hp} {Q : VK} {E : XK} (h : PenD H pen L ps) (h0 : 0 ≤ many) (h1 : many ≤ 26)
    (q : ∀ (d : Addr) (ss : List Str) (ps' : PenS) (H' : Hp), namesM many ps = (ss, ps') → (ss.length : Int) = many → (∀ s ∈ ss, isName s) → ss.Nodup → H d = none → H' d = some (.lst (ss.map V.str)) → PenD H' pen L ps' → Chg pen H H' → Q (.ref d) H') : spNames ([.ref pen, .int many] ++ []) H Q E :=
  ⟨pen, L, many, ps, rfl, h, h0, h1, q⟩
theorem fine_of {W : List (Str × Nat)} {p : Part} {ss sc st : List Str} (hn : ∀ s ∈ ss, isName s) (nd : ss.Nodup) (e : ss = sc ++ st) (h1 : p.ok (W.map (·.1)) sc) (h2 : p.deep ≤ 12) (h3 : p.size ≤ 60) (h4 : p.rowNames.Nodup) (h5 : ∀ x ∈ p.rowNames, x ∈ st) : p.fine (W.map (·.1)) sc :=
  ⟨h1, h2, h3, h4, fun x hx => ⟨hn x (by rw [e]; exact List.mem_append.mpr (.inr (h5 x hx))), fun hs => by rw [e] at nd; exact (List.nodup_append.mp nd).2.2 x hs x (h5 x hx) rfl⟩⟩
theorem pure_program {K : PySem.W.Frag} {w : World} : PureOk 1 spProgram (t_law_program K w spNames spDraw spBody) 8 := by
  refine ⟨fun vs H Q E ⟨_, _, _, e, _⟩ => by rw [e]; rfl, ?_⟩
  rintro vs H Q E ⟨pen, L, ps, rfl, hP, q⟩
  show t_law_program K w _ _ _ _ [some (.ref pen), none, none, none, none, none, none, none] H
  unfold t_law_program
  walk_at "go"
  intro l1 H1 nl1 el1 s1
  walk_at "go"
  refine g_drawD (hP.same s1) (by decide) (by decide) fun y sA H2 dA y0 y1 hP2 c2 => ?_
  obtain ⟨many, hm, hm0, hm1⟩ : ∃ many : Int, atI [V.int 0, V.int 1, V.int 2, V.int 3, V.int 4, V.int 2, V.int 3, V.int 8] y = some (.int many) ∧ 0 ≤ many ∧ many ≤ 8 := by
    obtain rfl | rfl | rfl | rfl | rfl | rfl | rfl | rfl : y = 0 ∨ y = 1 ∨ y = 2 ∨ y = 3 ∨ y = 4 ∨ y = 5 ∨ y = 6 ∨ y = 7 := by omega
    all_goals exact ⟨_, rfl, by decide, by decide⟩
  refine g_ixL (.of (c2 _ _ (hP.ne nl1).1.symm el1)) hm ?_
  walk_at "go"
  refine spNames_mk hP2 hm0 (by omega) fun nl ss sB H3 dB hss hsn hsd hn3 en3 hP3 c3 => ?_
  have c03 : Chg pen H H3 := (Chg.same s1).trans (c2.trans c3)
  walk_at "go"
  refine g_seqL ?_
  walk_at "go"
  refine g_isL (.of en3) fun wl hwl => ?_
  have npn : nl ≠ pen := (hP2.ne hn3).1.symm
  have nwn : nl ≠ wl := ne_of_none en3 hwl
  have fwl := hP3.ne hwl
  refine lc_any ss.length (fun i acc H' => ∃ (W : List (Str × Nat)) (ps' : PenS), worldM ss i sB = (W, ps') ∧ W.map (·.1) = ss.take i ∧ (∀ q ∈ W, q.2 ≤ 4) ∧ Tps H' acc (W.map fun q => .tuple [.str q.1, .int q.2]) ∧ PenD H' pen L ps' ∧ H' nl = some (.lst (ss.map V.str)) ∧ acc.length = i ∧ (∀ b o, b ≠ pen → b ≠ wl → H3 b = some o → H' b = some o)) hwl
    (fun H' _ s => ⟨[], sB, rfl, by simp, by simp, .nil, hP3.same s, s _ _ en3, rfl, fun b o _ _ e => s b o e⟩)
    (fun i acc H' hi ⟨_, _, _, _, _, _, _, e, _⟩ => ⟨_, _, .of e, List.getElem?_eq_getElem (by rw [List.length_map]; exact hi)⟩) (fun acc H' ⟨_, _, _, _, _, _, _, e, _⟩ => ⟨_, .of e, by rw [List.length_map]; exact Nat.le_refl _⟩) ?_ ?_
  · rintro i x acc _ H5 hi hl ⟨W, ps', eW, hW, hW4, tW, hP5, en5, hacc, c5⟩ hd5 ⟨rfl, hx⟩
    obtain ⟨nm, hnmi, rfl⟩ : ∃ nm, ss[i]? = some nm ∧ x = .str nm := by
      have h1 := hx _ (.of en5)
      rw [List.getElem?_map] at h1
      obtain ⟨nm, h2, h3⟩ := Option.map_eq_some_iff.mp h1
      exact ⟨nm, h2, h3.symm⟩
    walk_at "go"
    refine ⟨rfl, ?_⟩
    walk_at "go"
    refine g_T rfl ?_
    walk_at "go"
    intro l6 H6 nl6 el6 s6
    walk_at "go"
    refine g_drawD (hP5.same s6) (by decide) (by decide) fun y sC H7 dC y0 y1 hP7 c7 => ?_
    obtain ⟨k, hk, hk4⟩ : ∃ k : Nat, atI [V.int 1, V.int 0, V.int 1, V.int 2, V.int 2, V.int 3, V.int 4] y = some (.int k) ∧ k ≤ 4 := by
      obtain rfl | rfl | rfl | rfl | rfl | rfl | rfl : y = 0 ∨ y = 1 ∨ y = 2 ∨ y = 3 ∨ y = 4 ∨ y = 5 ∨ y = 6 := by omega
      · exact ⟨1, rfl, by decide⟩
      · exact ⟨0, rfl, by decide⟩
      · exact ⟨1, rfl, by decide⟩
      · exact ⟨2, rfl, by decide⟩
      · exact ⟨2, rfl, by decide⟩
      · exact ⟨3, rfl, by decide⟩
      · exact ⟨4, rfl, by decide⟩
    refine g_ixL (.of (c7 _ _ (hP5.ne nl6).1.symm el6)) hk ?_
    walk_at "go"
    intro a8 H8 na8 ea8 s8
    have c58 : Chg pen H5 H8 := (Chg.same s6).trans (c7.trans (.same s8))
    have k8 : Tk H5 H8 := hP5.pe.tk c58
    have hd8 := c58 _ _ fwl.1.symm hd5
    refine lc_step hd8 hl (by have : (ss.length : Int) ≤ 8 := by omega
                              show _ < 16777216; omega) fun H9 e9 c9 => ?_
    have k9 : Tk H8 H9 := c9.tkl hd8
    refine ⟨W ++ [(nm, k)], sC, worldM_succ eW dC hnmi hk, ?_, ?_, ?_, (hP7.same s8).chg c9 fwl.1 fwl.2, c9 _ _ nwn (c58 _ _ npn en5), by simp [hacc], fun b o n1 n2 e => c9 b o n2 (c58 b o n1 (c5 b o n1 n2 e))⟩
    · rw [List.map_append, hW, List.take_add_one, hnmi]
      rfl
    · intro q hq
      rcases List.mem_append.mp hq with h | h
      · exact hW4 q h
      · rw [List.mem_singleton.mp h]
        exact hk4
    · rw [List.map_append]
      exact Tps.append ((tW.mono k8).mono k9) (.one (.tup (k9 _ _ ea8) (.cons (.str _) (.one (.int _)))))
  rintro wx H5 hw5 ⟨W, ps', eW, hW, hW4, tW, hP5, en5, hacc, c5⟩
  rw [List.take_length] at hW
  have hWl : W.length = ss.length := by rw [← hW, List.length_map]
  have hWO : WorldOk W := ⟨by omega, fun q hq => ⟨hsn _ (by rw [← hW]; exact List.mem_map.mpr ⟨q, hq, rfl⟩), hW4 q hq⟩⟩
  have c05 : Chg pen H H5 := fun b o n1 e => c5 b o n1 (ne_of_none (c03 b o n1 e) hwl) (c03 b o n1 e)
  walk_at "go"
  intro fl H6 nf ef s6
  walk_at "go"
  have hw6 := s6 _ _ hw5
  have tW6 := tW.mono (Same.tk s6)
  have hP6 := hP5.same s6
  refine g_seqL ?_
  walk_at "go"
  refine g_isL (.of hw6) ?_
  have ffl := hP5.ne nf
  have nfw : wl ≠ fl := ne_of_none hw5 nf
  refine for_any W.length (fun i σ H' => ∃ (x3 x5 x6 x7 : Option V) (vs : List V) (fs : List Fn1) (ps2 : PenS), fnsM W i ps' = (fs, ps2) ∧ σ = [some (.ref pen), some (.ref nl), some (.ref wl), x3, some (.ref fl), x5, x6, x7] ∧
      H' fl = some (.lst vs) ∧ H' wl = some (.lst wx) ∧ Tps H' wx (W.map fun q => .tuple [.str q.1, .int q.2]) ∧ Tps H' vs (fs.map Fn1.data) ∧ fs.map (·.name) = (W.map (·.1)).take i ∧ (∀ f ∈ fs, f.fine (W.map (·.1))) ∧ PenD H' pen L ps2 ∧ vs.length = i ∧ (∀ b o, b ≠ pen → b ≠ fl → H6 b = some o → H' b = some o))
    ⟨none, none, none, none, [], [], ps', rfl, rfl, ef, hw6, tW6, .nil, by simp, by simp, hP6, rfl, fun b o _ _ e => e⟩
    (fun i σ H' hi ⟨_, _, _, _, _, _, _, _, _, _, e, t, _⟩ => ⟨_, _, .of e, List.getElem?_eq_getElem (by rw [t.length, List.length_map]; exact hi)⟩) (fun σ H' ⟨_, _, _, _, _, _, _, _, _, _, e, t, _⟩ => ⟨_, .of e, by rw [t.length, List.length_map]; exact Nat.le_refl _⟩) ?_ ?_
  · rintro i x σ _ H7 hi ⟨x3, x5, x6, x7, vs, fs, ps2, eF, rfl, hf7, hw7, tW7, tf7, hfs, hfine, hP7, hvl, c7⟩ ⟨rfl, hx⟩
    obtain ⟨d, hd, tx⟩ := tW7.get (hx _ (.of hw7))
    rw [List.getElem?_map] at hd
    obtain ⟨⟨f, k⟩, hfk, rfl⟩ := Option.map_eq_some_iff.mp hd
    have hfW := List.mem_of_getElem? hfk
    obtain ⟨a, u1, u2, rfl, ea, t1, t2⟩ := tx.two
    rw [t1.str_inv, t2.int_inv] at ea
    have hk4 : k ≤ 4 := (hWO.2 _ hfW).2
    refine g_un2 ea ?_
    walk_at "go"
    refine spNames_mk hP7 (by decide) (by decide) fun sk ns sD H8 dD hns hnn hnd nsk esk hP8 c8 => ?_
    walk_at "go"
    have hkn : k ≤ ns.length := by omega
    refine g_slL (.of esk) fun th H9 nth eth s9 => ?_
    rw [cut_to] at eth
    walk_at "go"
    have c79 : Chg pen H7 H9 := c8.trans (.same s9)
    have hf9 := c79 _ _ ffl.1.symm hf7
    have hw9 := c79 _ _ fwl.1.symm hw7
    refine g_tyl (.of hf9) ?_
    walk_at "go"
    refine g_tupleL (.of eth) fun tt H10 ntt ett s10 => ?_
    walk_at "go"
    have esk10 := s10 _ _ (s9 _ _ esk)
    refine g_slL (.of esk10) fun st H11 nst est s11 => ?_
    rw [cut_from k hkn] at est
    walk_at "go"
    have c711 : Chg pen H7 H11 := c79.trans ((Chg.same s10).trans (.same s11))
    have hP9 : PenD H9 pen L sD := hP8.same s9
    have hP10 : PenD H10 pen L sD := hP9.same s10
    have hP11 : PenD H11 pen L sD := hP10.same s11
    have fth := hP8.ne nth
    have fst := hP10.ne nst
    have hw11 := c711 _ _ fwl.1.symm hw7
    have hf11 := c711 _ _ ffl.1.symm hf7
    have k11 : Tk H7 H11 := hP7.pe.tk c711
    have eth11 := s11 _ _ (s10 _ _ eth)
    have esp : ns = ns.take k ++ ns.drop k := (List.take_append_drop k ns).symm
    refine ⟨pen, L, sD, wl, th, st, W, f, ns.take k, ns.drop k, rfl,
      ⟨hP11, ⟨wx, hw11, tW7.mono k11⟩, eth11, est, fwl.1.symm, ne_of_none (s10 _ _ hw9) nst, fth.1.symm, ne_of_none (s10 _ _ eth) nst, fst.1.symm, fst.2.symm⟩,
      ⟨hWO, ⟨fun x hx => hnn x (List.mem_of_mem_take hx), fun x hx => hnn x (List.mem_of_mem_drop hx), List.Sublist.nodup (List.drop_sublist k ns) hnd, by rw [List.length_take, List.length_drop]; omega⟩, .inr (List.mem_map.mpr ⟨_, hfW, rfl⟩), by rw [List.length_take]; omega⟩,
      fun v p sE H12 dE t12 hP12 ok12 d12 z12 nd12 un12 c12 => ?_⟩
    walk_at "go"
    intro a13 H13 na13 ea13 s13
    walk_at "go"
    have nws : wl ≠ st := ne_of_none (s10 _ _ hw9) nst
    have nfs : fl ≠ st := ne_of_none (s10 _ _ hf9) nst
    have nts : tt ≠ st := ne_of_none ett nst
    have ntp : tt ≠ pen := (hP9.ne ntt).1.symm
    have hf13 := s13 _ _ (c12 _ _ ffl.1.symm nfs hf11)
    have hw13 := s13 _ _ (c12 _ _ fwl.1.symm nws hw11)
    have k12 : Tk H11 H12 := fun b xs e => c12 b _ (by have hp := hP11.hp; rintro rfl; rw [hp] at e; cases e) (by rintro rfl; rw [est] at e; cases e) e
    have k13 : Tk H7 H13 := (k11.trans k12).trans (Same.tk s13)
    refine g_append hf13 (by have := hWO.1; rw [hvl]; show _ < 16777216; omega) fun H14 e14 c14 => ?_
    walk_at "go"
    have k14 : Tk H13 H14 := c14.tkl hf13
    have hP13 := hP12.same s13
    refine ⟨_, _, _, _, vs ++ [.ref a13], fs ++ [⟨f, ns.take k, p⟩], sE, fnsM_succ eF dD hfk dE, rfl, e14, c14 _ _ nfw hw13, (tW7.mono k13).mono k14, ?_, ?_, ?_, hP13.chg c14 ffl.1 ffl.2, by simp [hvl], fun b o n1 n2 e => c14 b o n2 (s13 b o (c12 b o n1 (ne_of_none (s10 b o (c79 b o n1 (c7 b o n1 n2 e))) nst) (c711 b o n1 (c7 b o n1 n2 e))))⟩
    · rw [List.map_append]
      refine Tps.append ((tf7.mono k13).mono k14) (.one (.tup (k14 _ _ ea13) (.cons (.str _) (.cons (.tup (k14 _ _ (s13 _ _ (c12 _ _ ntp nts (s11 _ _ ett)))) (Tps.strs _)) (.one ((t12.mono (Same.tk s13)).mono k14))))))
    · rw [List.map_append, hfs, List.take_add_one, List.getElem?_map, hfk]
      rfl
    · intro g hg
      rcases List.mem_append.mp hg with h | h
      · exact hfine g h
      · rw [List.mem_singleton.mp h]
        exact ⟨(hWO.2 _ hfW).1, by show (ns.take k).length ≤ 4; rw [List.length_take]; omega, List.Sublist.nodup (List.take_sublist k ns) hnd, fun x hx => hnn x (List.mem_of_mem_take hx), fine_of hnn hnd esp ok12 d12 z12 nd12 un12⟩
  rintro σ H7 ⟨x3, x5, x6, x7, vs, fs, ps2, eF, rfl, hf7, hw7, tW7, tf7, hfs, hfine, hP7, hvl, c7⟩
  rw [show W.length = (W.map (·.1)).length from (List.length_map _).symm, List.take_length] at hfs
  walk_at "go"
  refine g_tupleL (.of hf7) fun tf H8 ntf etf s8 => ?_
  walk_at "go"
  intro sc H9 nsc esc s9
  walk_at "go"
  have hP8 : PenD H8 pen L ps2 := hP7.same s8
  have hP9 : PenD H9 pen L ps2 := hP8.same s9
  have fsc := hP8.ne nsc
  refine spNames_mk hP9 (by decide) (by decide) fun st ns sF H10 dF hns hnn hnd nst est hP10 c10 => ?_
  walk_at "go"
  have c710 : Chg pen H7 H10 := (Chg.same s8).trans ((Chg.same s9).trans c10)
  have fst := hP9.ne nst
  have k10 : Tk H7 H10 := hP7.pe.tk c710
  have hw10 := c710 _ _ fwl.1.symm hw7
  have esc10 := c10 _ _ fsc.1.symm esc
  refine ⟨pen, L, sF, wl, sc, st, W, "", [], ns, rfl,
    ⟨hP10, ⟨wx, hw10, tW7.mono k10⟩, esc10, est, fwl.1.symm, ne_of_none (s9 _ _ (s8 _ _ hw7)) nst, fsc.1.symm, ne_of_none esc nst, fst.1.symm, fst.2.symm⟩,
    ⟨hWO, ⟨fun x hx => absurd hx (by simp), hnn, hnd, by show 0 + _ ≤ _; omega⟩, .inl rfl, by decide⟩, fun v p sG H11 dG t11 hP11 ok11 d11 z11 nd11 un11 c11 => ?_⟩
  walk_at "go"
  intro a12 H12 na12 ea12 s12
  have ntp : tf ≠ pen := (hP7.ne ntf).1.symm
  have nts : tf ≠ st := ne_of_none (s9 _ _ etf) nst
  have k11 : Tk H10 H11 := fun b xs e => c11 b _ (by have hp := hP10.hp; rintro rfl; rw [hp] at e; cases e) (by rintro rfl; rw [est] at e; cases e) e
  have k12 := (k10.trans k11).trans (Same.tk s12)
  have hnm : (Prog.mk fs p).names = W.map (·.1) := hfs
  refine q (.ref a12) ⟨fs, p⟩ sG H12 (programM_mk dA hm dB eW eF dF dG) ?_ ⟨?_, ?_, ?_, ?_⟩ (hP11.same s12) fun b o n1 e => ?_
  · refine .tup ea12 (.cons (.tup (s12 _ _ (c11 _ _ ntp nts (c10 _ _ ntp (s9 _ _ etf)))) (tf7.mono k12)) (.one (t11.mono (Same.tk s12))))
  · have := congrArg List.length hfs
    rw [List.length_map, List.length_map] at this
    have := hWO.1
    show fs.length ≤ 8
    omega
  · rw [hnm, hW]
    exact hsd
  · rw [hnm]
    exact hfine
  · rw [hnm]
    exact fine_of hnn hnd rfl ok11 d11 z11 nd11 un11
  · have e5 := c05 b o n1 e
    have e6 := s6 b o e5
    have e7 := c7 b o n1 (ne_of_none e5 nf) e6
    have e9 := s9 b o (s8 b o e7)
    exact s12 b o (c11 b o n1 (ne_of_none e9 nst) (c10 b o n1 e9))

/-! ### parts within parts -/
section
variable {K : PySem.W.Frag} {w : World} {σ : L2.St} {H : Hp} {Q : VK} {D : Ends} {c : TT} {tb : TS} {d : Addr} {z : Str} {kvs : List (Str × V)}
theorem while_any (Pv : Nat → L2.St → Hp → Prop) (m : Nat) (h0 : Pv m σ H)
    (hs : ∀ m σ H, Pv m σ H → c σ H fun b H1 => if b = true then ∃ N : L2.St → Hp → Prop, (∀ σ' H', N σ' H' → ∃ m', m' < m ∧ Pv m' σ' H') ∧ tb { D with nx := N, ct := N, bk := D.nx } σ H1 else D.nx σ H1) : tWhile c tb D σ H :=
  ⟨Pv, ⟨m, h0⟩, hs⟩
/-- a turn of a while -/
theorem g_turn {Pv : Nat → L2.St → Hp → Prop} {m : Nat} (h : tb { D with nx := fun σ' H' => ∃ m', m' < m ∧ Pv m' σ' H', ct := fun σ' H' => ∃ m', m' < m ∧ Pv m' σ' H', bk := D.nx } σ H) :
    ∃ N : L2.St → Hp → Prop, (∀ σ' H', N σ' H' → ∃ m', m' < m ∧ Pv m' σ' H') ∧ tb { D with nx := N, ct := N, bk := D.nx } σ H := ⟨_, fun _ _ h => h, h⟩
theorem g_inK (T : KTab K w d kvs) {r : Bool} (e : (kvs.find? fun q => decide (q.1 = z)).isSome = r) (q : Q (.bl r) H) : rInG K w false (.str z) (.ref d) H Q :=
  .inr (.inr (.inr ⟨z, d, _, rfl, rfl, T z, by subst e; simpa using q⟩))
theorem Tps.snoc_inv : ∀ {ds : List PyData} {e : PyData} {us : List V}, Tps H us (ds ++ [e]) → ∃ vs v, us = vs ++ [v] ∧ Tps H vs ds ∧ Tp H v e
  | [], e, us, h => by
    obtain ⟨v, r, rfl, tv, tr⟩ := h.cons_inv
    rw [tr.nil_inv]
    exact ⟨[], v, rfl, .nil, tv⟩
  | d :: ds, e, us, h => by
    obtain ⟨v, r, rfl, tv, tr⟩ := Tps.cons_inv (ds := ds ++ [e]) h
    obtain ⟨vs, x, rfl, t1, t2⟩ := Tps.snoc_inv tr
    exact ⟨v :: vs, x, rfl, .cons tv t1, t2⟩
/-- the list at l is unlike nothing, or like -/
theorem g_neLL {a b : Addr} {xs ys : List V} {ds es : List PyData} (ha : H a = some (.lst xs)) (hb : H b = some (.lst ys)) (ta : Tps H xs ds) (tb : Tps H ys es) (sa : SeqAt.shaped (.list ds) = true) (sb : SeqAt.shaped (.list es) = true)
    (q : Q (.bl (!PyData.eqv (.list ds) (.list es))) H) : rNeG K (.ref a) (.ref b) H Q := g_neD (.lst (.of ha) (Tps.dp ta)) (.lst (.of hb) (Tps.dp tb)) sa sb q
end
mutual
/-- all parts of a part, each ahead of what it holds -/
def Part.all : Part → List Part
  | .num n => [.num n]
  | .name x => [.name x]
  | .fn f => [.fn f]
  | .one k a => .one k a :: a.all
  | .two k a b => .two k a b :: (a.all ++ b.all)
  | .whn a b c => .whn a b c :: (a.all ++ (b.all ++ c.all))
  | .letp r a => .letp r a :: (r.all ++ a.all)
  | .shut a => [.shut a]
def Rows.all : Rows → List Part
  | .nil => []
  | .cons _ a r => a.all ++ r.all
end
theorem Rows.all_flat : ∀ r : Rows, r.all = r.parts.flatMap Part.all
  | .nil => rfl
  | .cons x a r => by
    show a.all ++ r.all = (a :: r.parts).flatMap Part.all
    rw [List.flatMap_cons, ← Rows.all_flat r]
theorem Part.all_kids (p : Part) : p.all = p :: p.kids.flatMap Part.all := by
  cases p with
  | letp r a =>
    show _ :: (r.all ++ a.all) = _ :: (r.parts ++ [a]).flatMap Part.all
    rw [Rows.all_flat, List.flatMap_append]
    simp
  | _ => simp [Part.all, Part.kids]
/-- sums, greatest depths -/
def sz : List Part → Nat
  | [] => 0
  | p :: r => p.size + sz r
def mxd : List Part → Nat
  | [] => 0
  | p :: r => max p.deep (mxd r)
theorem sz_app : ∀ a b : List Part, sz (a ++ b) = sz a + sz b
  | [], b => by show sz b = 0 + sz b; omega
  | p :: a, b => by
    show p.size + sz (a ++ b) = p.size + sz a + sz b
    rw [sz_app a b]
    omega
theorem mxd_app : ∀ a b : List Part, mxd (a ++ b) = max (mxd a) (mxd b)
  | [], b => by show mxd b = max 0 (mxd b); omega
  | p :: a, b => by
    show max p.deep (mxd (a ++ b)) = max (max p.deep (mxd a)) (mxd b)
    rw [mxd_app a b]
    omega
theorem sz_len : ∀ a : List Part, a.length ≤ sz a
  | [] => Nat.le_refl _
  | p :: a => by
    have := sz_len a
    have := p.size_pos
    show a.length + 1 ≤ p.size + sz a
    omega
theorem Rows.sz : ∀ r : Rows, r.size = Lz.sz r.parts
  | .nil => rfl
  | .cons x a r => by
    show a.size + r.size = a.size + Lz.sz r.parts
    rw [Rows.sz r]
theorem Rows.mxd : ∀ r : Rows, r.deep = Lz.mxd r.parts
  | .nil => rfl
  | .cons x a r => by
    show max a.deep r.deep = max a.deep (Lz.mxd r.parts)
    rw [Rows.mxd r]
theorem Part.sz_kids (p : Part) : p.size = 1 + sz p.kids := by
  cases p with
  | letp r a =>
    show 1 + (r.size + a.size) = 1 + sz (r.parts ++ [a])
    rw [sz_app, Rows.sz]
    rfl
  | _ => rfl
theorem Part.mxd_kids (p : Part) : p.deep = 1 + mxd p.kids := by
  cases p with
  | letp r a =>
    show 1 + max r.deep a.deep = 1 + mxd (r.parts ++ [a])
    rw [mxd_app, Rows.mxd]
    show _ = 1 + max _ (max a.deep 0)
    omega
  | one k a => show 1 + a.deep = 1 + max a.deep 0; omega
  | two k a b => show 1 + max a.deep b.deep = 1 + max a.deep (max b.deep 0); omega
  | whn a b c => show 1 + max a.deep (max b.deep c.deep) = 1 + max a.deep (max b.deep (max c.deep 0)); omega
  | _ => rfl
theorem mxd_mem {q : Part} : ∀ {a : List Part}, q ∈ a → q.deep ≤ mxd a
  | p :: a, h => by
    show q.deep ≤ max p.deep (mxd a)
    rcases List.mem_cons.mp h with rfl | h
    · omega
    · have := mxd_mem h
      omega
/-! what stands in a program -/
def Part.good (p : Part) : Prop := (∃ fs sc, p.ok fs sc) ∧ p.deep ≤ 12
theorem Rows.ok_parts {fs sc : List Str} : ∀ {r : Rows}, r.ok fs sc → ∀ q ∈ r.parts, q.ok fs sc
  | .cons x a r, h, q, hq => by
    rcases List.mem_cons.mp hq with rfl | hq
    · exact h.1
    · exact Rows.ok_parts h.2 q hq
theorem Part.ok_kids {fs sc : List Str} {p : Part} (h : p.ok fs sc) : ∃ sc', ∀ q ∈ p.kids, q.ok fs sc' := by
  cases p with
  | num n => exact ⟨sc, by simp [Part.kids]⟩
  | name x => exact ⟨sc, by simp [Part.kids]⟩
  | fn f => exact ⟨sc, by simp [Part.kids]⟩
  | one k a => exact ⟨sc, fun q hq => by rw [List.mem_singleton.mp hq]; exact h⟩
  | two k a b =>
    refine ⟨sc, fun q hq => ?_⟩
    simp only [Part.kids, List.mem_cons, List.not_mem_nil, or_false] at hq
    rcases hq with rfl | rfl
    · exact h.1
    · exact h.2
  | whn a b c =>
    refine ⟨sc, fun q hq => ?_⟩
    simp only [Part.kids, List.mem_cons, List.not_mem_nil, or_false] at hq
    rcases hq with rfl | rfl | rfl
    · exact h.1
    · exact h.2.1
    · exact h.2.2
  | letp r a =>
    obtain ⟨_, _, _, h1, h2⟩ := h
    refine ⟨sc ++ r.names, fun q hq => ?_⟩
    rcases List.mem_append.mp hq with hq | hq
    · exact Rows.ok_parts h1 q hq
    · rw [List.mem_singleton.mp hq]
      exact h2
  | shut a => exact h.elim
theorem Part.good.kids {p : Part} (h : p.good) : ∀ q ∈ p.kids, q.good := by
  obtain ⟨⟨fs, sc, h1⟩, h2⟩ := h
  obtain ⟨sc', h3⟩ := Part.ok_kids h1
  have h4 := p.mxd_kids
  exact fun q hq => ⟨⟨fs, sc', h3 q hq⟩, by have := mxd_mem hq; omega⟩
theorem lay_word1 : ∀ k : K1, PyData.strOk k.word = true := by intro k; cases k <;> decide +kernel
theorem lay_word2 : ∀ k : K2, PyData.strOk k.word = true := by intro k; cases k <;> decide +kernel
mutual
theorem Part.lay {fs : List Str} : ∀ {p : Part} {sc : List Str}, p.ok fs sc → PyData.canLay0 p.data = true ∧ PyData.depth p.data ≤ 3 * p.deep
  | .num n, sc, h => by simp [Part.data, PyData.canLay0, PyData.canLayAll0, PyData.depth, PyData.depthAll, Part.deep]; decide +kernel
  | .name x, sc, h => by
    have := canLay_name h.2
    rw [PyData.canLay0] at this
    simp [Part.data, PyData.canLay0, PyData.canLayAll0, PyData.depth, PyData.depthAll, Part.deep, this]; decide +kernel
  | .fn x, sc, h => by
    have := canLay_name h.2
    rw [PyData.canLay0] at this
    simp [Part.data, PyData.canLay0, PyData.canLayAll0, PyData.depth, PyData.depthAll, Part.deep, this]; decide +kernel
  | .one k a, sc, h => by
    obtain ⟨h1, h2⟩ := Part.lay (p := a) h
    have hw := lay_word1 k
    simp only [Part.data, PyData.canLay0, PyData.canLayAll0, PyData.depth, PyData.depthAll, Part.deep, h1, hw, Bool.and_true, Bool.true_and]
    exact ⟨trivial, by omega⟩
  | .two k a b, sc, h => by
    obtain ⟨h1, h2⟩ := Part.lay (p := a) h.1
    obtain ⟨h3, h4⟩ := Part.lay (p := b) h.2
    have hw := lay_word2 k
    simp only [Part.data, PyData.canLay0, PyData.canLayAll0, PyData.depth, PyData.depthAll, Part.deep, h1, h3, hw, Bool.and_true, Bool.true_and]
    exact ⟨trivial, by omega⟩
  | .whn a b c, sc, h => by
    obtain ⟨h1, h2⟩ := Part.lay (p := a) h.1
    obtain ⟨h3, h4⟩ := Part.lay (p := b) h.2.1
    obtain ⟨h5, h6⟩ := Part.lay (p := c) h.2.2
    have hw : PyData.strOk "when" = true := by decide +kernel
    simp only [Part.data, PyData.canLay0, PyData.canLayAll0, PyData.depth, PyData.depthAll, Part.deep, h1, h3, h5, hw, Bool.and_true, Bool.true_and]
    exact ⟨trivial, by omega⟩
  | .letp r a, sc, h => by
    obtain ⟨h1, h2⟩ := Part.lay (p := a) h.2.2.2.2
    obtain ⟨h3, h4⟩ := Rows.lay (r := r) h.2.2.2.1 h.2.2.1
    have hw : PyData.strOk "let" = true := by decide +kernel
    simp only [Part.data, PyData.canLay0, PyData.canLayAll0, PyData.depth, PyData.depthAll, Part.deep, h1, h3, hw, Bool.and_true, Bool.true_and]
    exact ⟨trivial, by omega⟩
  | .shut a, sc, h => h.elim
theorem Rows.lay {fs : List Str} : ∀ {r : Rows} {sc : List Str}, r.ok fs sc → (∀ x ∈ r.names, isName x) → PyData.canLayAll0 r.datas = true ∧ PyData.depthAll r.datas ≤ 3 * r.deep + 1
  | .nil, sc, h, _ => by simp [Rows.datas, PyData.canLayAll0, PyData.depthAll]
  | .cons x a r, sc, h, hn => by
    obtain ⟨h1, h2⟩ := Part.lay (p := a) h.1
    obtain ⟨h3, h4⟩ := Rows.lay (r := r) h.2 fun y hy => hn y (List.mem_cons_of_mem _ hy)
    have hw := canLay_name (hn x (by show x ∈ x :: r.names; simp))
    rw [PyData.canLay0] at hw
    simp only [Rows.datas, PyData.canLay0, PyData.canLayAll0, PyData.depth, PyData.depthAll, Rows.deep, h1, h3, hw, Bool.and_true, Bool.true_and]
    exact ⟨trivial, by omega⟩
end
theorem Part.good.lay {p : Part} (h : p.good) : PyData.canLay0 p.data = true ∧ PyData.depth p.data ≤ 36 := by
  obtain ⟨⟨fs, sc, h1⟩, h2⟩ := h
  have := Part.lay h1
  exact ⟨this.1, by omega⟩
theorem shaped_parts {ps : List Part} (h : ∀ p ∈ ps, p.good) : SeqAt.shaped (.list (ps.map Part.data)) = true :=
  shaped_list (k := 36) (fun d hd => by obtain ⟨p, hp, rfl⟩ := List.mem_map.mp hd; exact (h p hp).lay.1) (fun d hd => by obtain ⟨p, hp, rfl⟩ := List.mem_map.mp hd; exact (h p hp).lay.2) (by decide)
/-- the rows' values -/
theorem Rows.get : ∀ {r : Rows} {i : Nat} {d : PyData}, r.datas[i]? = some d → ∃ x p, r.names[i]? = some x ∧ r.parts[i]? = some p ∧ d = .tuple [.str x, p.data]
  | .nil, i, d, h => by simp [Rows.datas] at h
  | .cons x a r, 0, d, h => by
    have h1 : some (PyData.tuple [.str x, a.data]) = some d := h
    cases h1
    exact ⟨x, a, rfl, rfl, rfl⟩
  | .cons x a r, i + 1, d, h => Rows.get (r := r) h
theorem Rows.len : ∀ r : Rows, r.datas.length = r.parts.length
  | .nil => rfl
  | .cons x a r => congrArg (· + 1) (Rows.len r)
def spKids : Sp := fun vs H Q _ => ∃ (v : V) (p : Part), vs = [v] ∧ Tp H v p.data ∧ p.good ∧ p.size ≤ 60 ∧ ∀ (l : Addr) (us : List V) (H' : Hp), H l = none → H' l = some (.lst us) → Tps H' us (p.kids.map Part.data) → Same H H' → Q (.ref l) H'
theorem not_whole {n d : Nat} {o : Option Int} (h : 1 ≤ n) : ¬ (HT.sIx n 0 (some 1) = 0 ∧ HT.sIx n d o = n) := by
  rintro ⟨h1, _⟩
  rw [show (1 : Int) = ((1 : Nat) : Int) from rfl, HT.sIx_nat] at h1
  omega
def PARTSkvs : List (Str × V) := [("give", .int 2), ("plus", .int 2), ("less", .int 2), ("times", .int 2), ("below", .int 2), ("when", .int 3), ("pair", .int 2), ("left", .int 1), ("right", .int 1)]

/-! ### sums -/
def allGood (ps : List Part) : Prop := ∀ p ∈ ps, p.good
theorem sz_mem {q : Part} : ∀ {a : List Part}, q ∈ a → q.size ≤ sz a
  | p :: a, h => by
    show q.size ≤ p.size + sz a
    rcases List.mem_cons.mp h with rfl | h
    · omega
    · have := sz_mem h
      omega
theorem sz_rev : ∀ a : List Part, sz a.reverse = sz a
  | [] => rfl
  | p :: a => by
    rw [List.reverse_cons, sz_app, sz_rev a]
    show sz a + (p.size + 0) = p.size + sz a
    omega
/-! ### how deep -/
def dsz : List (Part × Nat) → Nat
  | [] => 0
  | (p, _) :: r => p.size + dsz r
def dmx : List (Part × Nat) → Nat
  | [] => 0
  | (p, d) :: r => max (d + p.deep) (dmx r)
def pd (q : Part × Nat) : PyData := .tuple [q.1.data, .int q.2]
/-! ### kids -/
theorem pure_within {K : PySem.W.Frag} {w : World} (T : KTab K w (He.ga K "PARTS") PARTSkvs) : PureOk 1 spKids (t_within K w) 3 := by
  refine ⟨fun vs H Q E ⟨_, _, e, _⟩ => by rw [e]; rfl, ?_⟩
  rintro vs H Q E ⟨v, p, rfl, t, hg, hz, q⟩
  show t_within K w _ [some v, none, none] H
  unfold t_within
  walk_at "go"
  have leaf : ∀ {x : Str} {y : V} {a : Addr} {Q' : VK}, H a = some (.tup [.str x, y]) → Q' (.str x) H → rIxG K w (.ref a) (.int 0) H Q' := fun e q => g_ixT (.of e) (atI_of (by decide) rfl) q
  cases p with
  | shut a => exact hg.1.elim fun _ h => h.elim fun _ h => h.elim
  | num n =>
    obtain ⟨a, x, y, rfl, ea, t1, t2⟩ := t.two
    rw [t1.str_inv] at ea
    refine g_ixT (.of ea) (atI_of (by decide) rfl) (g_inK T (r := false) (by decide +kernel) ?_)
    walk_at "go"
    refine g_F rfl ?_
    walk_at "go"
    refine g_ixT (.of ea) (atI_of (by decide) rfl) ?_
    walk_at "go"
    refine g_F (by decide +kernel) ?_
    walk_at "go"
    intro l H1 nl el s1
    exact q l [] H1 nl el .nil s1
  | name n =>
    obtain ⟨a, x, y, rfl, ea, t1, t2⟩ := t.two
    rw [t1.str_inv] at ea
    refine g_ixT (.of ea) (atI_of (by decide) rfl) (g_inK T (r := false) (by decide +kernel) ?_)
    walk_at "go"
    refine g_F rfl ?_
    walk_at "go"
    refine g_ixT (.of ea) (atI_of (by decide) rfl) ?_
    walk_at "go"
    refine g_F (by decide +kernel) ?_
    walk_at "go"
    intro l H1 nl el s1
    exact q l [] H1 nl el .nil s1
  | fn n =>
    obtain ⟨a, x, y, rfl, ea, t1, t2⟩ := t.two
    rw [t1.str_inv] at ea
    refine g_ixT (.of ea) (atI_of (by decide) rfl) (g_inK T (r := false) (by decide +kernel) ?_)
    walk_at "go"
    refine g_F rfl ?_
    walk_at "go"
    refine g_ixT (.of ea) (atI_of (by decide) rfl) ?_
    walk_at "go"
    refine g_F (by decide +kernel) ?_
    walk_at "go"
    intro l H1 nl el s1
    exact q l [] H1 nl el .nil s1
  | one k b =>
    obtain ⟨a, x, y, rfl, ea, t1, t2⟩ := t.two
    rw [t1.str_inv] at ea
    refine g_ixT (.of ea) (atI_of (by decide) rfl) (g_inK T (r := true) (by cases k <;> decide +kernel) ?_)
    walk_at "go"
    refine g_T rfl ?_
    walk_at "go"
    refine g_slT (.of ea) (not_whole (by simp)) fun p1 H1 n1 e1 s1 => ?_
    walk_at "go"
    refine g_listT (.of e1) fun l H2 nl el s2 => ?_
    exact q l _ H2 (s1.free nl) el (.cons ((t2.mono (Same.tk s1)).mono (Same.tk s2)) .nil) (s1.trans s2)
  | two k b c =>
    obtain ⟨a, x, y, z, rfl, ea, t1, t2, t3⟩ := t.three
    rw [t1.str_inv] at ea
    refine g_ixT (.of ea) (atI_of (by decide) rfl) (g_inK T (r := true) (by cases k <;> decide +kernel) ?_)
    walk_at "go"
    refine g_T rfl ?_
    walk_at "go"
    refine g_slT (.of ea) (not_whole (by simp)) fun p1 H1 n1 e1 s1 => ?_
    walk_at "go"
    refine g_listT (.of e1) fun l H2 nl el s2 => ?_
    have k2 : Tk H H2 := Same.tk (s1.trans s2)
    exact q l _ H2 (s1.free nl) el (.cons (t2.mono k2) (.cons (t3.mono k2) .nil)) (s1.trans s2)
  | whn b c d =>
    obtain ⟨a, xs, rfl, ea, h1⟩ := t.tup_inv
    obtain ⟨x1, r1, rfl, t1, h1⟩ := h1.cons_inv
    obtain ⟨x2, r1, rfl, t2, h1⟩ := h1.cons_inv
    obtain ⟨x3, r1, rfl, t3, h1⟩ := h1.cons_inv
    obtain ⟨x4, r1, rfl, t4, h1⟩ := h1.cons_inv
    rw [h1.nil_inv, t1.str_inv] at ea
    refine g_ixT (.of ea) (atI_of (by decide) rfl) (g_inK T (r := true) (by decide +kernel) ?_)
    walk_at "go"
    refine g_T rfl ?_
    walk_at "go"
    refine g_slT (.of ea) (not_whole (by simp)) fun p1 H1 n1 e1 s1 => ?_
    walk_at "go"
    refine g_listT (.of e1) fun l H2 nl el s2 => ?_
    have k2 : Tk H H2 := Same.tk (s1.trans s2)
    exact q l _ H2 (s1.free nl) el (.cons (t2.mono k2) (.cons (t3.mono k2) (.cons (t4.mono k2) .nil))) (s1.trans s2)
  | letp r b =>
    obtain ⟨a, x, y, z, rfl, ea, t1, t2, t3⟩ := t.three
    rw [t1.str_inv] at ea
    refine g_ixT (.of ea) (atI_of (by decide) rfl) (g_inK T (r := false) (by decide +kernel) ?_)
    walk_at "go"
    refine g_F rfl ?_
    walk_at "go"
    refine g_ixT (.of ea) (atI_of (by decide) rfl) ?_
    walk_at "go"
    refine g_T (by decide +kernel) ?_
    walk_at "go"
    refine g_seqT ?_
    walk_at "go"
    refine g_ixT (.of ea) (atI_of (by decide) rfl) ?_
    obtain ⟨ra, rs, rfl, er, tr⟩ := t2.tup_inv
    refine g_isT (.of er) fun dn hdn => ?_
    have hlen : rs.length = r.parts.length := by rw [tr.length, r.len]
    have hfew : r.parts.length ≤ 60 := by
      have h1 := r.sz
      have h2 := sz_len r.parts
      have h3 : 1 + (r.size + b.size) ≤ 60 := hz
      omega
    refine lc_any rs.length (fun i acc H' => Tps H' acc ((r.parts.take i).map Part.data) ∧ Same H H' ∧ acc.length = i) hdn
      (fun H' _ s => ⟨.nil, s, rfl⟩) (fun i acc H' hi ⟨_, s, _⟩ => ⟨_, _, .of (s _ _ er), List.getElem?_eq_getElem hi⟩) (fun acc H' ⟨_, s, _⟩ => ⟨_, .of (s _ _ er), Nat.le_refl _⟩) ?_ ?_
    · rintro i x acc _ H5 hi hl ⟨ta, s5, hacc⟩ hd5 ⟨rfl, hx⟩
      obtain ⟨d, hd, tx⟩ := tr.get (hx _ (.of (s5 _ _ er)))
      obtain ⟨nm, p, hnm, hp, rfl⟩ := Rows.get hd
      obtain ⟨a2, u1, u2, rfl, ea2, _, tp⟩ := tx.two
      refine g_un2 (s5 _ _ ea2) ?_
      refine ⟨rfl, ?_⟩
      walk_at "go"
      refine g_T rfl ?_
      walk_at "go"
      refine lc_step hd5 hl (by show _ < 16777216; omega) fun H6 e6 c6 => ?_
      refine ⟨?_, Same.chg s5 hdn c6, by simp [hacc]⟩
      rw [List.take_add_one, hp, List.map_append]
      exact Tps.append (ta.mono (c6.tkl hd5)) (.one (((tp.mono (Same.tk s5))).mono (c6.tkl hd5)))
    rintro us H5 hd5 ⟨tu, s5, hacc⟩
    rw [hlen, List.take_length] at tu
    walk_at "go"
    refine g_ixT (.of (s5 _ _ ea)) (atI_of (by decide) rfl) ?_
    walk_at "go"
    intro l6 H6 nl6 el6 s6
    walk_at "go"
    refine g_addL (s6 _ _ hd5) el6 (by rw [hacc, hlen]; show _ + 1 ≤ 16777216; omega) fun l H7 nl el s7 => ?_
    have s07 : Same H H7 := s5.trans (s6.trans s7)
    refine q l _ H7 (s5.free (s6.free nl)) el ?_ s07
    show Tps H7 _ ((r.parts ++ [b]).map Part.data)
    rw [List.map_append]
    exact Tps.append (tu.mono (Same.tk (s6.trans s7))) (.one (t3.mono (Same.tk s07)))
/-! ### the parts in order -/
def spOrder : Sp := fun vs H Q _ => ∃ (v : V) (p : Part), vs = [v] ∧ Tp H v p.data ∧ p.good ∧ p.size ≤ 60 ∧ ∀ (l : Addr) (us : List V) (H' : Hp), H l = none → H' l = some (.lst us) → Tps H' us (p.all.map Part.data) → Same H H' → Q (.ref l) H'
theorem pure_order {K : PySem.W.Frag} {w : World} : PureOk 1 spOrder (t_in_order K w spKids) 4 := by
  refine ⟨fun vs H Q E ⟨_, _, e, _⟩ => by rw [e]; rfl, ?_⟩
  rintro vs H Q E ⟨v, p, rfl, t, hg, hz, q⟩
  show t_in_order K w _ _ [some v, none, none, none] H
  unfold t_in_order
  walk_at "go"
  intro fl H1 nf ef s1
  walk_at "go"
  intro pl H2 np ep s2
  walk_at "go"
  have hfp : fl ≠ pl := ne_of_none ef np
  refine while_any (fun m σ H' => ∃ (x3 : Option V) (us vs : List V) (fs ps : List Part), σ = [some v, some (.ref fl), some (.ref pl), x3] ∧ H' fl = some (.lst us) ∧ H' pl = some (.lst vs) ∧ Tps H' us (fs.map Part.data) ∧ Tps H' vs (ps.map Part.data) ∧
      allGood ps ∧ fs ++ ps.reverse.flatMap Part.all = p.all ∧ fs.length + sz ps = p.size ∧ m = sz ps ∧ Same H H') (p.size + 0)
    ⟨none, [], [v], [], [p], rfl, s2 _ _ ef, ep, .nil, .cons (t.mono (Same.tk (s1.trans s2))) .nil, fun x hx => by rw [List.mem_singleton.mp hx]; exact hg, by simp, by show 0 + (p.size + 0) = _; omega, rfl, s1.trans s2⟩ ?_
  rintro m σ H3 ⟨x3, us, vs, fs, ps, rfl, hf, hp, tf, tp, hgs, hall, hn, rfl, s3⟩
  walk_at "go"
  intro e4 H4 ne4 ee4 s4
  have hg4 := shaped_parts hgs
  refine g_neLL (s4 _ _ hp) ee4 (tp.mono (Same.tk s4)) .nil hg4 shaped_nil ?_
  rw [eqv_nil]
  walk_at "go"
  refine g_ite (fun hne => ?_) (fun hne => ?_)
  · refine g_turn ?_
    obtain ⟨ps', p1, rfl⟩ : ∃ ps' p1, ps = ps' ++ [p1] := by
      have : ps ≠ [] := by rintro rfl; simp at hne
      exact ⟨ps.dropLast, ps.getLast this, (List.dropLast_concat_getLast this).symm⟩
    have hg1 : p1.good := hgs p1 (by simp)
    have hz1 : p1.size ≤ 60 := by
      have := sz_mem (q := p1) (a := ps' ++ [p1]) (by simp)
      omega
    rw [List.map_append] at tp
    obtain ⟨vs', v1, rfl, tp', t1⟩ := tp.snoc_inv
    have hp4 := s4 _ _ hp
    walk_at "go"
    refine g_tyl (.of hp4) ?_
    refine g_pop hp4 fun H5 e5 c5 => ?_
    walk_at "go"
    have s5 : Chg pl H H5 := fun b o n e => c5 b o n (s4 b o (s3 b o e))
    have k5 : Tk H3 H5 := (Same.tk s4).trans (c5.tkl hp4)
    have hf5 := c5 _ _ hfp (s4 _ _ hf)
    refine g_tyl (.of hf5) ?_
    walk_at "go"
    have hul : us.length = fs.length := by rw [tf.length, List.length_map]
    refine g_append hf5 (by rw [hul]; show _ < 16777216; omega) fun H6 e6 c6 => ?_
    walk_at "go"
    have k6 : Tk H3 H6 := k5.trans (c6.tkl hf5)
    have hp6 := c6 _ _ hfp.symm e5
    refine g_tyl (.of hp6) ?_
    walk_at "go"
    refine ⟨v1, p1, rfl, t1.mono k6, hg1, hz1, fun l7 ks H7 nl7 el7 tk7 s7 => ?_⟩
    refine g_revL (.of el7) ?_
    intro l8 H8 nl8 el8 s8
    have tk8 : Tps H8 ks.reverse (p1.kids.map Part.data).reverse := (tk7.mono (Same.tk s8)).reverse
    have hp8 := s8 _ _ (s7 _ _ hp6)
    have hsz := p1.sz_kids
    have hkl : ks.length = p1.kids.length := by rw [tk7.length, List.length_map]
    have hvl : vs'.length = ps'.length := by rw [tp'.length, List.length_map]
    have h1 := sz_len p1.kids
    have h2 := sz_len ps'
    have h3 := sz_app ps' [p1]
    have h4 : sz [p1] = p1.size := Nat.add_zero _
    walk_at "go"
    refine g_extend hp8 el8 (by rw [List.length_reverse, hkl, hvl]; show _ ≤ 16777216; omega) fun H9 e9 c9 => ?_
    walk_at "go"
    have k9 : Tk H8 H9 := c9.tkl hp8
    have k39 : Tk H3 H9 := (k6.trans (Same.tk (s7.trans s8))).trans k9
    have fl9 := c9 _ _ hfp (s8 _ _ (s7 _ _ e6))
    have npl : H pl = none := s1.free np
    have nfl : H fl = none := nf
    refine ⟨sz (ps' ++ p1.kids.reverse), by rw [sz_app, sz_rev]; omega, _, _, _, fs ++ [p1], ps' ++ p1.kids.reverse, rfl, fl9, e9, ?_, ?_, ?_, ?_, ?_, rfl, ?_⟩
    · rw [List.map_append]
      exact Tps.append (tf.mono k39) (.one (t1.mono k39))
    · rw [List.map_append, List.map_reverse]
      exact Tps.append (tp'.mono k39) (tk8.mono k9)
    · intro x hx
      rcases List.mem_append.mp hx with hx | hx
      · exact hgs x (List.mem_append.mpr (.inl hx))
      · exact hg1.kids x (List.mem_reverse.mp hx)
    · rw [← hall, List.reverse_append, List.reverse_append, List.reverse_reverse, List.flatMap_append, List.append_assoc]
      show fs ++ (p1 :: (p1.kids.flatMap Part.all ++ _)) = fs ++ (p1 :: ps'.reverse).flatMap Part.all
      rw [List.flatMap_cons, p1.all_kids, List.cons_append]
    · rw [sz_app, sz_rev, List.length_append]
      show _ + 1 + _ = _
      omega
    · exact fun b o e => c9 b o (ne_of_none e npl) (s8 b o (s7 b o (c6 b o (ne_of_none e nfl) (s5 b o (ne_of_none e npl) e))))
  · walk_at "go"
    have hps : ps = [] := by
      cases ps with
      | nil => rfl
      | cons a b => simp at hne
    subst hps
    rw [List.reverse_nil, List.flatMap_nil, List.append_nil] at hall
    rw [hall] at tf
    exact q fl us H4 nf (s4 _ _ hf) (tf.mono (Same.tk s4)) (s3.trans s4)
def spMany : Sp := fun vs H Q _ => ∃ (v : V) (p : Part), vs = [v] ∧ Tp H v p.data ∧ p.good ∧ p.size ≤ 60 ∧ ∀ (H' : Hp), Same H H' → Q (.int p.size) H'

/-! ### programs' rows -/
theorem Part.fine.good {fs sc : List Str} {p : Part} (h : p.fine fs sc) : p.good := ⟨⟨fs, sc, h.ok⟩, h.deep⟩
def Prog.bodies (P : Prog) : List Part := P.fs.map (·.body) ++ [P.asked]
theorem Tp.prog {H : Hp} {v : V} {P : Prog} (h : Tp H v P.data) : ∃ a b u vs, v = .ref a ∧ H a = some (.tup [.ref b, u]) ∧ H b = some (.tup vs) ∧ Tps H vs (P.fs.map Fn1.data) ∧ Tp H u P.asked.data := by
  obtain ⟨a, x, u, rfl, ha, h1, h2⟩ := h.two
  obtain ⟨b, vs, rfl, hb, h3⟩ := h1.tup_inv
  exact ⟨a, b, u, vs, rfl, ha, hb, h3, h2⟩
theorem Tp.fn1 {H : Hp} {v : V} {f : Fn1} (h : Tp H v f.data) : ∃ a b u, v = .ref a ∧ H a = some (.tup [.str f.name, .ref b, u]) ∧ H b = some (.tup (f.things.map V.str)) ∧ Tp H u f.body.data := by
  obtain ⟨a, x, y, u, rfl, ha, h1, h2, h3⟩ := h.three
  obtain ⟨b, vs, rfl, hb, h4⟩ := h2.tup_inv
  have : vs = f.things.map V.str := by
    have : ∀ (ss : List Str) (vs : List V), Tps H vs (ss.map PyData.str) → vs = ss.map V.str := by
      intro ss
      induction ss with
      | nil => intro vs h; exact h.nil_inv
      | cons s ss ih =>
        intro vs h
        obtain ⟨v, us, rfl, hv, hu⟩ := Tps.cons_inv (ds := ss.map PyData.str) h
        rw [hv.str_inv, ih us hu]
        rfl
    exact this _ _ h4
  subst this
  rw [h1.str_inv] at ha
  exact ⟨a, b, u, rfl, ha, hb, h3⟩
def spLaw (K : PySem.W.Frag) : Sp := fun vs H Q _ => ∃ (a : Addr) (ns : List Int), vs = [.ref a] ∧ SqL K H a (ns.map V.int) ∧ ns.length ≤ 63 ∧ ∀ H', Q (.bl true) H'
/-- drawn programs -/
def spRight : Sp := fun vs H Q _ => ∃ (v : V) (P : Prog), vs = [v] ∧ Tp H v P.data ∧ P.fine ∧ ∀ H' : Hp, Same H H' → Q (.bl true) H'

/-! ### numbers, things, wants of functions -/
/-- f is the j-th function's name, or none is and j is how many there are -/
def NumAt (P : Prog) (f : Str) (j : Nat) : Prop := P.names[j]? = some f ∨ (f ∉ P.names ∧ j = P.names.length)
def spNum : Sp := fun vs H Q _ => ∃ (v : V) (P : Prog) (f : Str) (j : Nat), vs = [v, .str f] ∧ Tp H v P.data ∧ P.fine ∧ NumAt P f j ∧ ∀ H' : Hp, Same H H' → Q (.int j) H'
theorem pure_num {K : PySem.W.Frag} {w : World} : PureOk 2 spNum (t_number_of K w) 6 := by
  refine ⟨fun vs H Q E ⟨_, _, _, _, e, _⟩ => by rw [e]; rfl, ?_⟩
  rintro vs H Q E ⟨v, P, f, j, rfl, tP, hfine, hj, q⟩
  show t_number_of K w _ [some v, some (.str f), none, none, none, none] H
  unfold t_number_of
  obtain ⟨pa, fa, u, vs, rfl, epa, efa, tfs, tas⟩ := tP.prog
  walk_at "go"
  refine g_seqT ?_
  walk_at "go"
  refine g_ixT (.of epa) (atI_of (by decide) rfl) ?_
  refine g_isT (.of efa) fun dn hdn => ?_
  have hvl : vs.length = P.fs.length := by rw [tfs.length, List.length_map]
  have hfew := hfine.few
  refine lc_any vs.length (fun i acc H' => acc = ((P.fs.take i).map (·.name)).map V.str ∧ Same H H') hdn
    (fun H' _ s => ⟨by simp, s⟩) (fun i acc H' hi ⟨_, s⟩ => ⟨_, _, .of (s _ _ efa), List.getElem?_eq_getElem hi⟩) (fun acc H' ⟨_, s⟩ => ⟨_, .of (s _ _ efa), Nat.le_refl _⟩) ?_ ?_
  · rintro i x acc _ H8 hi hl ⟨rfl, s8⟩ hd8 ⟨rfl, hx⟩
    obtain ⟨dt, hdt, tx⟩ := tfs.get (hx _ (.of (s8 _ _ efa)))
    rw [List.getElem?_map] at hdt
    obtain ⟨f, hf, rfl⟩ := Option.map_eq_some_iff.mp hdt
    obtain ⟨a3, b3, u3, rfl, ea3, eb3, tu3⟩ := tx.fn1
    refine g_un3 (s8 _ _ ea3) ?_
    refine ⟨rfl, ?_⟩
    walk_at "go"
    refine g_T rfl ?_
    walk_at "go"
    refine lc_step hd8 hl (by show _ < 16777216; omega) fun H10 e10 c10 => ?_
    exact ⟨by rw [List.take_add_one, hf]; simp, Same.chg s8 hdn c10⟩
  rintro us H3 hd3 ⟨rfl, s3⟩
  rw [hvl, List.take_length] at hd3
  have hd3' : H3 dn = some (.lst (P.names.map V.str)) := hd3
  walk_at "go"
  refine g_inL (.of hd3') ?_
  walk_at "go"
  rcases hj with hj | ⟨hj, rfl⟩
  · refine g_T (decide_eq_true (List.mem_of_getElem? hj)) ?_
    walk_at "go"
    refine g_tyl (.of hd3') ?_
    walk_at "go"
    refine g_indexS (.of hd3') hfine.nd hj ?_
    exact q H3 s3
  · refine g_F (decide_eq_false hj) ?_
    walk_at "go"
    refine g_lenL (.of hd3') ?_
    rw [List.length_map]
    exact q H3 s3
/-- the things of the function f -/
def ThingsAt (P : Prog) (f : Str) (ts : List Str) : Prop := (∃ (j : Nat) (fn : Fn1), P.fs[j]? = some fn ∧ fn.name = f ∧ ts = fn.things) ∨ (f ∉ P.names ∧ ts = [])
def spThings : Sp := fun vs H Q _ => ∃ (v : V) (P : Prog) (f : Str) (ts : List Str), vs = [v, .str f] ∧ Tp H v P.data ∧ P.fine ∧ ThingsAt P f ts ∧ ∀ (a : Addr) (H' : Hp), H' a = some (.tup (ts.map V.str)) → Same H H' → Q (.ref a) H'
theorem pure_things {K : PySem.W.Frag} {w : World} : PureOk 2 spThings (t_things_of K w spNum) 3 := by
  refine ⟨fun vs H Q E ⟨_, _, _, _, e, _⟩ => by rw [e]; rfl, ?_⟩
  rintro vs H Q E ⟨v, P, f, ts, rfl, tP, hfine, hts, q⟩
  show t_things_of K w _ _ [some v, some (.str f), none] H
  unfold t_things_of
  walk_at "go"
  obtain ⟨j, hj, hjt⟩ : ∃ j, NumAt P f j ∧ ((∃ fn, P.fs[j]? = some fn ∧ ts = fn.things) ∨ (j = P.fs.length ∧ ts = [])) := by
    rcases hts with ⟨j, fn, h1, h2, h3⟩ | ⟨h1, h2⟩
    · exact ⟨j, .inl (by show (P.fs.map _)[j]? = _; rw [List.getElem?_map, h1, ← h2]; rfl), .inl ⟨fn, h1, h3⟩⟩
    · exact ⟨_, .inr ⟨h1, rfl⟩, .inr ⟨by show (P.fs.map _).length = _; rw [List.length_map], h2⟩⟩
  refine ⟨v, P, f, j, rfl, tP, hfine, hj, fun H1 s1 => ?_⟩
  obtain ⟨pa, fa, u, vs, rfl, epa, efa, tfs, tas⟩ := (tP.mono (Same.tk s1)).prog
  have hvl : vs.length = P.fs.length := by rw [tfs.length, List.length_map]
  walk_at "go"
  refine g_ixT (.of epa) (atI_of (by decide) rfl) ?_
  walk_at "go"
  refine g_lenT (.of efa) ?_
  walk_at "go"
  rcases hjt with ⟨fn, h1, rfl⟩ | ⟨rfl, rfl⟩
  · have hlt := (List.getElem?_eq_some_iff.mp h1).1
    refine g_F (decide_eq_false (by omega)) ?_
    walk_at "go"
    refine g_ixT (.of epa) (atI_of (by decide) rfl) ?_
    walk_at "go"
    obtain ⟨x, hx, tx⟩ := tfs.at (i := j) (d := fn.data) (by rw [List.getElem?_map, h1]; rfl)
    refine g_ixT (.of efa) (atI_nat hx) ?_
    walk_at "go"
    obtain ⟨a3, b3, u3, rfl, ea3, eb3, tu3⟩ := tx.fn1
    refine g_ixT (.of ea3) (atI_of (by decide) rfl) ?_
    exact q b3 H1 eb3 s1
  · refine g_T (decide_eq_true (by omega)) ?_
    walk_at "go"
    intro a2 H2 na2 ea2 s2
    exact q a2 H2 ea2 (s1.trans s2)
def spWants : Sp := fun vs H Q _ => ∃ (v : V) (P : Prog) (f : Str) (ts : List Str), vs = [v, .str f] ∧ Tp H v P.data ∧ P.fine ∧ ThingsAt P f ts ∧ ∀ (H' : Hp), Same H H' → Q (.int ts.length) H'

/-! ### parts by their words -/
def Part.word : Part → Str
  | .num _ => "number"
  | .name _ => "name"
  | .fn _ => "fun"
  | .one k _ => k.word
  | .two k _ _ => k.word
  | .whn _ _ _ => "when"
  | .letp _ _ => "let"
  | .shut _ => "shut"
def Part.args : Part → List PyData
  | .num n => [.int n]
  | .name x => [.str x]
  | .fn f => [.str f]
  | .one _ a => [a.data]
  | .two _ a b => [a.data, b.data]
  | .whn a b c => [a.data, b.data, c.data]
  | .letp r a => [.tuple r.datas, a.data]
  | .shut a => [a.data]
theorem Part.data_eq (p : Part) : p.data = .tuple (.str p.word :: p.args) := by cases p <;> rfl
/-- the parts that are things of a part's tuple -/
def Part.subs : Part → List Part
  | .one _ a => [a]
  | .two _ a b => [a, b]
  | .whn a b c => [a, b, c]
  | .shut a => [a]
  | _ => []
def plainWord (x : Str) : Prop := x ∉ [("number" : Str), "fun", "let", "name"]
theorem Part.args_subs {p : Part} (h : plainWord p.word) : p.args = p.subs.map Part.data := by
  cases p with
  | num n => exact absurd (show ("number" : Str) ∈ [("number" : Str), "fun", "let", "name"] from by simp) h
  | name n => exact absurd (show ("name" : Str) ∈ [("number" : Str), "fun", "let", "name"] from by simp) h
  | fn n => exact absurd (show ("fun" : Str) ∈ [("number" : Str), "fun", "let", "name"] from by simp) h
  | letp r a => exact absurd (show ("let" : Str) ∈ [("number" : Str), "fun", "let", "name"] from by simp) h
  | _ => rfl
theorem Tp.part {H : Hp} {v : V} {p : Part} (h : Tp H v p.data) : ∃ a xs, v = .ref a ∧ H a = some (.tup (.str p.word :: xs)) ∧ Tps H xs p.args := by
  rw [p.data_eq] at h
  obtain ⟨a, xs, rfl, h1, h2⟩ := h.tup_inv
  obtain ⟨x, us, rfl, hx, hu⟩ := h2.cons_inv
  rw [hx.str_inv] at h1
  exact ⟨a, us, rfl, h1, hu⟩
mutual
/-- how many parts, those within shut ones too -/
def Part.big : Part → Nat
  | .num _ => 1
  | .name _ => 1
  | .fn _ => 1
  | .one _ a => 1 + a.big
  | .two _ a b => 1 + (a.big + b.big)
  | .whn a b c => 1 + (a.big + (b.big + c.big))
  | .letp r a => 1 + (r.big + a.big)
  | .shut a => 1 + a.big
def Rows.big : Rows → Nat
  | .nil => 0
  | .cons _ a r => a.big + r.big
end
def bsum : List Part → Nat
  | [] => 0
  | p :: r => p.big + bsum r
mutual
/-- a part of which nothing is asked but that its functions are there; shut ones too -/
def Part.wf (fs : List Str) : Part → Prop
  | .num _ => True
  | .name _ => True
  | .fn f => f ∈ fs
  | .one _ a => a.wf fs
  | .two _ a b => a.wf fs ∧ b.wf fs
  | .whn a b c => a.wf fs ∧ b.wf fs ∧ c.wf fs
  | .letp r a => r.wf fs ∧ a.wf fs
  | .shut a => a.wf fs
def Rows.wf (fs : List Str) : Rows → Prop
  | .nil => True
  | .cons _ a r => a.wf fs ∧ r.wf fs
end
/-- what stands ahead of a part's gives; the things that it is given, in their order -/
def Part.head : Part → Part
  | .two .give a _ => a.head
  | p => p
def Part.given : Part → List Part
  | .two .give a b => a.given ++ [b]
  | _ => []
/-- how many things f wants -/
def Prog.wantsOf (P : Prog) (f : Str) : Nat := match P.fs.find? (fun g => decide (g.name = f)) with
  | some g => g.things.length
  | none => 0
/-- is it a worth -/
def Part.worth (P : Prog) (p : Part) : Bool := decide (p.word ∈ [("number" : Str), "pair"]) || match p.head with
  | .fn f => decide (p.given.length < P.wantsOf f)
  | _ => false
/-- rows of a list -/
def Rows.of : List (Str × Part) → Rows
  | [] => .nil
  | q :: r => .cons q.1 q.2 (Rows.of r)
def rowD (q : Str × Part) : PyData := .tuple [.str q.1, q.2.data]
/-- a pen's is no tuple -/
theorem pen_tup {H : Hp} {pen L b : Addr} {xs : List V} (h : PenAt H pen L) (e : H b = some (.tup xs)) : b ≠ pen := by
  obtain ⟨_, _, _, hp, _⟩ := h
  rintro rfl
  rw [hp] at e
  cases e
/-! layable, so deep -/
def layD (k : Nat) (d : PyData) : Prop := PyData.canLay0 d = true ∧ PyData.depth d ≤ k
def Part.lk (k : Nat) (p : Part) : Prop := layD k p.data
theorem depAll_of {k : Nat} : ∀ {ds : List PyData}, (∀ d ∈ ds, PyData.depth d ≤ k) → PyData.depthAll ds ≤ k
  | [], _ => by rw [PyData.depthAll]; omega
  | d :: ds, h => by
    have h1 := h d (by simp)
    have h2 := depAll_of fun e he => h e (List.mem_cons_of_mem _ he)
    rw [PyData.depthAll]
    omega
theorem layD.mono {j k : Nat} {d : PyData} (h : layD j d) (hjk : j ≤ k) : layD k d := ⟨h.1, Nat.le_trans h.2 hjk⟩
theorem Part.lk.mono {j k : Nat} {p : Part} (h : p.lk j) (hjk : j ≤ k) : p.lk k := layD.mono h hjk
theorem cut_tail {x : V} {xs : List V} : cutV (x :: xs) (some 1) none = xs := by
  unfold cutV
  rw [HT.sIx_none, show (1 : Int) = ((1 : Nat) : Int) from rfl, HT.sIx_nat, List.length_cons, Nat.min_eq_left (by omega)]
  show xs.take _ = xs
  rw [List.take_of_length_le (by omega)]
theorem subs_kids {p : Part} (hw : plainWord p.word) (hs : p.word ≠ "shut") : p.subs = p.kids := by
  cases p with
  | letp r a => exact absurd (show ("let" : Str) ∈ [("number" : Str), "fun", "let", "name"] from by simp) hw
  | shut a => exact absurd rfl hs
  | _ => rfl
theorem not_name {p : Part} (hw : plainWord p.word) : p.word ≠ "name" := fun e => hw (by rw [e]; simp)
theorem word_cases (p : Part) : (∃ n, p = .num n) ∨ (∃ x, p = .name x) ∨ (∃ f, p = .fn f) ∨ (∃ r a, p = .letp r a) ∨ (∃ a, p = .shut a) ∨ (plainWord p.word ∧ p.word ≠ "shut") := by
  cases p with
  | num n => exact .inl ⟨n, rfl⟩
  | name n => exact .inr (.inl ⟨n, rfl⟩)
  | fn n => exact .inr (.inr (.inl ⟨n, rfl⟩))
  | letp r a => exact .inr (.inr (.inr (.inl ⟨r, a, rfl⟩)))
  | shut a => exact .inr (.inr (.inr (.inr (.inl ⟨a, rfl⟩))))
  | one k a => exact .inr (.inr (.inr (.inr (.inr (by cases k <;> (simp only [plainWord, Part.word, K1.word]; decide))))))
  | two k a b => exact .inr (.inr (.inr (.inr (.inr (by cases k <;> (simp only [plainWord, Part.word, K2.word]; decide))))))
  | whn a b c => exact .inr (.inr (.inr (.inr (.inr (by simp only [plainWord, Part.word]; decide)))))
def Rows.list : Rows → List (Str × Part)
  | .nil => []
  | .cons x a r => (x, a) :: r.list
theorem Rows.list_datas : ∀ r : Rows, r.datas = r.list.map rowD
  | .nil => rfl
  | .cons x a r => by
    show _ :: r.datas = _ :: r.list.map rowD
    rw [Rows.list_datas r]
    rfl
theorem Rows.list_parts : ∀ r : Rows, r.parts = r.list.map (·.2)
  | .nil => rfl
  | .cons x a r => by
    show a :: r.parts = _
    rw [Rows.list_parts r]
    rfl
theorem Rows.list_names : ∀ r : Rows, r.names = r.list.map (·.1)
  | .nil => rfl
  | .cons x a r => by
    show x :: r.names = _
    rw [Rows.list_names r]
    rfl

/-! ### pens, parts: for the search -/
theorem ne_pen {H : Hp} {pen L a : Addr} (h : PenAt H pen L) (h' : Fr H a) : pen ≠ a := (h.ne h').1
theorem ne_penL {H : Hp} {pen L a : Addr} (h : PenAt H pen L) (h' : Fr H a) : L ≠ a := (h.ne h').2
theorem Chg.to_pen {H H' : Hp} {pen L b : Addr} {xs : List V} (c : Chg pen H H') (hP : PenAt H pen L) (h : H b = some (.tup xs)) : H' b = some (.tup xs) := c b _ (pen_tup hP h) h
local macro_rules | `(tactic| walk_at "at") => `(tactic| first
  | assumption
  | ((with_reducible refine Same.to (H := ?gh) ?gs ?gt); (case gs => assumption); walk_at "at")
  | ((with_reducible refine Chg.to_pen (H := ?gh) (pen := ?ga) (L := ?gl) (xs := ?gx) ?gs ?gp ?gt); (case gs => assumption); (case gp => walk_at "pen0"); (case gt => walk_at "at"))
  | ((with_reducible refine Chg.to (H := ?gh) (a := ?ga) ?gs ?gt ?gn); (case gs => assumption); (case gn => walk_at "ne"); (case gt => walk_at "at")))
local macro_rules | `(tactic| walk_at "free") => `(tactic| first
  | assumption
  | ((with_reducible refine Same.free (H' := ?gh) ?gs ?gt); (case gs => assumption); walk_at "free")
  | ((with_reducible refine Chg.free (H' := ?gh) (a := ?ga) ?gs ?gn ?gt); (case gs => assumption); (case gn => walk_at "ne"); walk_at "free"))
local macro_rules | `(tactic| walk_at "ne") => `(tactic| first
  | assumption
  | (refine Ne.symm ?gt; assumption)
  | ((refine ne_fr (H := ?gh) (o := ?go) ?g1 ?g2); (case g2 => assumption); (case g1 => walk_at "at"))
  | ((refine Ne.symm (ne_fr (H := ?gh) (o := ?go) ?g1 ?g2)); (case g2 => assumption); (case g1 => walk_at "at"))
  | ((refine ne_pen (H := ?gh) (L := ?gl) ?g1 ?g2); (case g2 => assumption); (case g1 => walk_at "pen0"))
  | ((refine ne_penL (H := ?gh) (pen := ?gl) ?g1 ?g2); (case g2 => assumption); (case g1 => walk_at "pen0"))
  | ((refine Ne.symm (ne_pen (H := ?gh) (L := ?gl) ?g1 ?g2)); (case g2 => assumption); (case g1 => walk_at "pen0"))
  | ((refine Ne.symm (ne_penL (H := ?gh) (pen := ?gl) ?g1 ?g2)); (case g2 => assumption); (case g1 => walk_at "pen0")))
local macro_rules | `(tactic| walk_at "pen0") => `(tactic| first
  | assumption
  | ((with_reducible refine PenAt.same (H := ?gh) ?gt ?gs); (case gs => assumption); walk_at "pen0"))
local macro_rules | `(tactic| walk_at "pen") => `(tactic| first
  | assumption
  | ((with_reducible refine PenAt.same (H := ?gh) ?gt ?gs); (case gs => assumption); walk_at "pen")
  | ((with_reducible refine PenAt.chg (H := ?gh) (d := ?gd) ?gt ?gs ?g1 ?g2); (case gs => assumption); (case g1 => walk_at "ne"); (case g2 => walk_at "ne"); walk_at "pen"))
local macro_rules | `(tactic| walk_at "tk") => `(tactic| first
  | assumption
  | exact Tk.refl _
  | ((with_reducible refine Tk.same (H1 := ?gh) ?gt ?gs); (case gs => assumption); walk_at "tk")
  | ((with_reducible refine Tk.lst (H1 := ?gh) (a := ?ga) (ys := ?gy) ?gt ?gs ?gl); (case gs => assumption); (case gl => walk_at "at"); walk_at "tk")
  | ((with_reducible refine Tk.dct (H1 := ?gh) (a := ?ga) (kvs := ?gy) ?gt ?gs ?gl); (case gs => assumption); (case gl => walk_at "at"); walk_at "tk")
  | ((with_reducible refine Tk.trans (H1 := ?gh) ?gt (PenAt.tk (pen := ?gp) (L := ?gq) ?gl ?gs)); (case gs => assumption); (case gl => walk_at "pen"); walk_at "tk")
  | ((with_reducible refine Tk.trans (H1 := ?gh) ?gt ?gs); (case gs => assumption); walk_at "tk"))
local macro_rules | `(tactic| walk_at "same") => `(tactic| first
  | assumption
  | exact Same.refl _
  | ((with_reducible refine Same.more (H1 := ?gh) ?gt ?gs); (case gs => assumption); walk_at "same")
  | ((with_reducible refine Same.more2 (H1 := ?gh) (d := ?gd) ?gt ?gs ?gf); (case gs => assumption); (case gf => walk_at "free"); walk_at "same"))
local macro_rules | `(tactic| walk_at "chg") => `(tactic| first
  | assumption
  | exact Chg.refl
  | ((with_reducible refine Chg.trans (H1 := ?gh) ?gt ?gs); (case gs => assumption); walk_at "chg")
  | ((with_reducible refine Chg.trans (H1 := ?gh) ?gt (Chg.same ?gs)); (case gs => assumption); walk_at "chg")
  | ((with_reducible refine Chg.fresh (H1 := ?gh) (d := ?gd) ?gt ?gf ?gs); (case gs => assumption); (case gf => walk_at "free"); walk_at "chg"))
local macro_rules | `(tactic| walk_at "tps") => `(tactic| first
  | assumption
  | exact Tps.nil
  | (with_reducible (refine Tps.cons ?g1 ?g2); (case g1 => walk_at "tp"); walk_at "tps")
  | ((refine Tps.to (H := ?gh) ?gt ?gk); (case gt => assumption); walk_at "tk"))
local macro_rules | `(tactic| walk_at "tp") => `(tactic| first
  | assumption
  | exact Tp.str _
  | exact Tp.int _
  | exact Tp.bl _
  | exact Tp.non
  | ((refine Tp.to (H := ?gh) ?gt ?gk); (case gt => assumption); walk_at "tk")
  | ((refine Tp.tup (xs := ?gx) ?g1 ?g2); (case g1 => walk_at "at"); walk_at "tps"))
local macro_rules | `(tactic| walk_at "g2") => `(tactic| first
  | walk_at "g1"
  | with_reducible refine New.mk fun p H n e s => ?_
  | with_reducible refine Put.mk fun H e c => ?_
  | ((with_reducible refine g_ixTa (xs := ?gx) (v := ?gv) ?gh ?ge ?gi ?gt); (case gh => walk_at "at"); (case ge => exact rfl); (case gi => decide))
  | ((with_reducible refine g_ixLa (xs := ?gx) (v := ?gv) ?gh ?ge ?gi ?gt); (case gh => walk_at "at"); (case ge => exact rfl); (case gi => decide))
  | ((with_reducible refine g_tyl (xs := ?gx) (SqL.of ?gh) ?gt); (case gh => walk_at "at"))
  | ((with_reducible refine g_T ?gh ?gt); (case gh => exact rfl))
  | ((with_reducible refine g_F ?gh ?gt); (case gh => exact rfl))
  | ((with_reducible refine g_lenL (xs := ?gx) (SqL.of ?gh) ?gt); (case gh => walk_at "at"))
  | ((with_reducible refine g_lenT (xs := ?gx) (SqT.of ?gh) ?gt); (case gh => walk_at "at"))
  | ((with_reducible refine g_tupleL (xs := ?gx) (SqL.of ?gh) ?gt); (case gh => walk_at "at"))
  | ((with_reducible refine g_tupleT (xs := ?gx) (SqT.of ?gh) ?gt); (case gh => walk_at "at"))
  | ((with_reducible refine g_listL (xs := ?gx) (SqL.of ?gh) ?gt); (case gh => walk_at "at"))
  | ((with_reducible refine g_listT (xs := ?gx) (SqT.of ?gh) ?gt); (case gh => walk_at "at"))
  | ((refine g_un2 (x := ?gx) (y := ?gy) ?gh ?gt); (case gh => walk_at "at"); (try dsimp only [List.set]))
  | ((refine g_un3 (x := ?gx) (y := ?gy) (z := ?gz) ?gh ?gt); (case gh => walk_at "at"); (try dsimp only [List.set]))
  | ((with_reducible refine g_inX (xs := ?gx) (r := true) ?gh ?gf ?ge ?gt); (case gh => walk_at "at"); (case gf => exact rfl); (case ge => exact rfl))
  | ((with_reducible refine g_inX (xs := ?gx) (r := false) ?gh ?gf ?ge ?gt); (case gh => walk_at "at"); (case gf => exact rfl); (case ge => exact rfl))
  | ((with_reducible refine g_notInX (xs := ?gx) (r := true) ?gh ?gf ?ge ?gt); (case gh => walk_at "at"); (case gf => exact rfl); (case ge => exact rfl))
  | ((with_reducible refine g_notInX (xs := ?gx) (r := false) ?gh ?gf ?ge ?gt); (case gh => walk_at "at"); (case gf => exact rfl); (case ge => exact rfl))
  | ((with_reducible refine g_inK (kvs := ?gk) (r := false) ?gh ?ge ?gt); (case gh => assumption); (case ge => exact rfl))
  | ((with_reducible refine g_inK (kvs := ?gk) (r := true) ?gh ?ge ?gt); (case gh => assumption); (case ge => exact rfl))
  | ((with_reducible refine g_dnew ?gt))
  | ((with_reducible refine g_isTa (xs := ?gx) ?gh ?gt); (case gh => walk_at "at"))
  | ((with_reducible refine g_isLa (xs := ?gx) ?gh ?gt); (case gh => walk_at "at")))
local macro_rules | `(tactic| walk_at "gg") => `(tactic| repeat walk_at "g2")
local macro_rules | `(tactic| walk_at "len") => `(tactic| (show _ ≤ 16777216; simp only [List.length_append, List.length_cons, List.length_nil, List.length_map, List.length_reverse]; omega))
local macro_rules | `(tactic| walk_at "g2") => `(tactic| first
  | ((with_reducible refine g_neNil (xs := ?gx) ?gh ?gi ?gt); (case gi => walk_at "at"); (case gh => walk_at "at"))
  | ((with_reducible refine g_eqNil (xs := ?gx) ?gh ?gi ?gt); (case gi => walk_at "at"); (case gh => walk_at "at"))
  | ((with_reducible refine g_inGT (xs := ?gx) (r := true) ?gh ?gf ?ge ?gt); (case gh => assumption); (case gf => exact rfl); (case ge => exact rfl))
  | ((with_reducible refine g_inGT (xs := ?gx) (r := false) ?gh ?gf ?ge ?gt); (case gh => assumption); (case gf => exact rfl); (case ge => exact rfl))
  | with_reducible refine g_neBI ?_ | with_reducible refine g_neBS ?_ | with_reducible refine g_eqBI ?_ | with_reducible refine g_eqBS ?_
  | with_reducible refine g_dictZ ?_
  | with_reducible refine g_zipM ?_
  | ((with_reducible refine g_dict (kvs := ?gx) ?gh ?gt); (case gh => walk_at "at"))
  | ((with_reducible refine g_addL (xs := ?gx) (ys := ?gy) ?gh ?gi ?gl ?gt); (case gh => walk_at "at"); (case gi => walk_at "at"); (case gl => walk_at "len")))
local macro_rules | `(tactic| walk_at "draw") => `(tactic| ((refine g_draw (L := ?gl) ?gp ?g0 ?g1 ?gq); (case gp => walk_at "pen"); (case g0 => decide); (case g1 => decide)))
local macro_rules | `(tactic| walk_at "g2") => `(tactic| first
  | with_reducible refine g_calE ?_ | with_reducible refine g_calS ?_ | with_reducible refine g_calN ?_ | with_reducible refine g_raiseO ?_ | with_reducible refine g_raiseI ?_ | with_reducible refine g_tryK ?_)

/-! ### closed parts put in -/
theorem Lk.up {K : PySem.W.Frag} {H : Hp} : ∀ {n m : Nat} {x y : V}, n ≤ m → Lk K H n x y → Lk K H m x y
  | 0, _, _, _, _, h => h.elim
  | n + 1, 0, _, _, hnm, _ => absurd hnm (by omega)
  | n + 1, m + 1, x, y, hnm, h => by
    have pu : ∀ {xs ys : List V}, Paired (Lk K H n) xs ys → Paired (Lk K H m) xs ys := by
      intro xs ys p
      induction p with
      | nil => exact .nil
      | cons a _ ih => exact .cons (Lk.up (by omega) a) ih
    rcases h with h | h | ⟨a, b, xs, ys, e1, e2, h1, h2, p⟩ | ⟨a, b, xs, ys, e1, e2, h1, h2, p⟩
    · exact .inl h
    · exact .inr (.inl h)
    · exact .inr (.inr (.inl ⟨a, b, xs, ys, e1, e2, h1, h2, pu p⟩))
    · exact .inr (.inr (.inr ⟨a, b, xs, ys, e1, e2, h1, h2, pu p⟩))
section
variable {K : PySem.W.Frag} {H H' : Hp}
/-- two tuples of alike things -/
theorem Lk.tup {n : Nat} {a b : Addr} {xs ys : List V} (ha : H a = some (.tup xs)) (hb : H b = some (.tup ys)) (p : Paired (Lk K H n) xs ys) : Lk K H (n + 1) (.ref a) (.ref b) := .inr (.inr (.inr ⟨a, b, xs, ys, rfl, rfl, .of ha, .of hb, p⟩))
theorem Lk.flat {n : Nat} {x : V} (h : flatB x = true) : Lk K H (n + 1) x x := .inl ⟨rfl, h⟩
theorem Lk.same {n : Nat} {a : Addr} : Lk K H (n + 1) (.ref a) (.ref a) := .inr (.inl ⟨a, rfl, rfl⟩)
mutual
theorem Tp.like : ∀ {d : PyData} {v v' : V} {n : Nat}, Tp H v d → Tp H v' d → PyData.depth d < n → Lk K H n v v'
  | .none, _, _, n, h, h', hn => by
    cases h; cases h'
    obtain ⟨m, rfl⟩ : ∃ m, n = m + 1 := ⟨n - 1, by omega⟩
    exact .flat rfl
  | .bool b, _, _, n, h, h', hn => by
    cases h; cases h'
    obtain ⟨m, rfl⟩ : ∃ m, n = m + 1 := ⟨n - 1, by omega⟩
    exact .flat rfl
  | .int i, _, _, n, h, h', hn => by
    cases h; cases h'
    obtain ⟨m, rfl⟩ : ∃ m, n = m + 1 := ⟨n - 1, by omega⟩
    exact .flat rfl
  | .str x, _, _, n, h, h', hn => by
    cases h; cases h'
    obtain ⟨m, rfl⟩ : ∃ m, n = m + 1 := ⟨n - 1, by omega⟩
    exact .flat rfl
  | .tuple ds, _, _, n, h, h', hn => by
    cases h with
    | tup e r =>
      cases h' with
      | tup e' r' =>
        obtain ⟨m, rfl⟩ : ∃ m, n = m + 1 := ⟨n - 1, by omega⟩
        rw [PyData.depth] at hn
        exact .tup e e' (Tps.like r r' (by omega))
  | .list ds, _, _, _, h, _, _ => by cases h
  | .dict ds, _, _, _, h, _, _ => by cases h
theorem Tps.like : ∀ {ds : List PyData} {vs vs' : List V} {n : Nat}, Tps H vs ds → Tps H vs' ds → PyData.depthAll ds < n → Paired (Lk K H n) vs vs'
  | [], _, _, _, h, h', _ => by cases h; cases h'; exact .nil
  | d :: ds, _, _, n, h, h', hn => by
    rw [PyData.depthAll] at hn
    cases h with
    | cons a b =>
      cases h' with
      | cons a' b' => exact .cons (Tp.like a a' (by omega)) (Tps.like b b' (by omega))
end
end
mutual
def Part.put (env : Str → Option Part) : Part → Part
  | .num n => .num n
  | .name x => match env x with
    | some q => .shut q
    | none => .name x
  | .fn f => .fn f
  | .one k a => .one k (a.put env)
  | .two k a b => .two k (a.put env) (b.put env)
  | .whn a b c => .whn (a.put env) (b.put env) (c.put env)
  | .letp r a => .letp (r.put env) (a.put env)
  | .shut a => .shut a
def Rows.put (env : Str → Option Part) : Rows → Rows
  | .nil => .nil
  | .cons x a r => .cons x (a.put env) (r.put env)
end
mutual
/-- v is the part with the values dv in the place of names; the same objects in both -/
def PutAt (H : Hp) (dv : Str → Option V) : Part → V → Prop
  | .num n, v => Tp H v (Part.num n).data
  | .name x, v => match dv x with
    | some u => ∃ a, v = .ref a ∧ H a = some (.tup [.str "shut", u])
    | none => Tp H v (Part.name x).data
  | .fn f, v => Tp H v (Part.fn f).data
  | .one k a, v => ∃ r x, v = .ref r ∧ H r = some (.tup [.str k.word, x]) ∧ PutAt H dv a x
  | .two k a b, v => ∃ r x y, v = .ref r ∧ H r = some (.tup [.str k.word, x, y]) ∧ PutAt H dv a x ∧ PutAt H dv b y
  | .whn a b c, v => ∃ r x y z, v = .ref r ∧ H r = some (.tup [.str "when", x, y, z]) ∧ PutAt H dv a x ∧ PutAt H dv b y ∧ PutAt H dv c z
  | .letp rs a, v => ∃ r b xs x, v = .ref r ∧ H r = some (.tup [.str "let", .ref b, x]) ∧ H b = some (.tup xs) ∧ PutRows H dv rs xs ∧ PutAt H dv a x
  | .shut a, v => Tp H v (Part.shut a).data
def PutRows (H : Hp) (dv : Str → Option V) : Rows → List V → Prop
  | .nil, vs => vs = []
  | .cons x a r, vs => ∃ c u us, vs = .ref c :: us ∧ H c = some (.tup [.str x, u]) ∧ PutAt H dv a u ∧ PutRows H dv r us
end
section
variable {H H' : Hp} {dv : Str → Option V}
mutual
theorem PutAt.mono (k : Tk H H') : ∀ {p : Part} {v : V}, PutAt H dv p v → PutAt H' dv p v
  | .num n, v, h => Tp.mono k h
  | .name x, v, h => by
    unfold PutAt at h ⊢
    split at h
    · obtain ⟨a, e, h⟩ := h
      exact ⟨a, e, k _ _ h⟩
    · exact Tp.mono k h
  | .fn f, v, h => Tp.mono k h
  | .one _ a, v, ⟨r, x, e, h, h1⟩ => ⟨r, x, e, k _ _ h, PutAt.mono k h1⟩
  | .two _ a b, v, ⟨r, x, y, e, h, h1, h2⟩ => ⟨r, x, y, e, k _ _ h, PutAt.mono k h1, PutAt.mono k h2⟩
  | .whn a b c, v, ⟨r, x, y, z, e, h, h1, h2, h3⟩ => ⟨r, x, y, z, e, k _ _ h, PutAt.mono k h1, PutAt.mono k h2, PutAt.mono k h3⟩
  | .letp rs a, v, ⟨r, b, xs, x, e, h, hb, h1, h2⟩ => ⟨r, b, xs, x, e, k _ _ h, k _ _ hb, PutRows.mono k h1, PutAt.mono k h2⟩
  | .shut a, v, h => Tp.mono k h
theorem PutRows.mono (k : Tk H H') : ∀ {r : Rows} {vs : List V}, PutRows H dv r vs → PutRows H' dv r vs
  | .nil, vs, h => h
  | .cons x a r, vs, ⟨c, u, us, e, h, h1, h2⟩ => ⟨c, u, us, e, k _ _ h, PutAt.mono k h1, PutRows.mono k h2⟩
end
/-- what dv tells is what env tells -/
def EnvAt (H : Hp) (dv : Str → Option V) (env : Str → Option Part) : Prop := ∀ x, (dv x = none ∧ env x = none) ∨ ∃ u q, dv x = some u ∧ env x = some q ∧ Tp H u q.data
mutual
theorem PutAt.tp {env : Str → Option Part} (he : EnvAt H dv env) : ∀ {p : Part} {v : V}, PutAt H dv p v → Tp H v (p.put env).data
  | .num n, v, h => h
  | .name x, v, h => by
    unfold PutAt at h
    unfold Part.put
    rcases he x with ⟨e1, e2⟩ | ⟨u, q, e1, e2, t⟩
    · rw [e1] at h
      rw [e2]
      exact h
    · rw [e1] at h
      rw [e2]
      obtain ⟨a, rfl, h⟩ := h
      exact .tup h (.cons (.str _) (.one t))
  | .fn f, v, h => h
  | .one _ a, v, ⟨r, x, e, h, h1⟩ => by
    subst e
    exact .tup h (.cons (.str _) (.one (PutAt.tp he h1)))
  | .two _ a b, v, ⟨r, x, y, e, h, h1, h2⟩ => by
    subst e
    exact .tup h (.cons (.str _) (.cons (PutAt.tp he h1) (.one (PutAt.tp he h2))))
  | .whn a b c, v, ⟨r, x, y, z, e, h, h1, h2, h3⟩ => by
    subst e
    exact .tup h (.cons (.str _) (.cons (PutAt.tp he h1) (.cons (PutAt.tp he h2) (.one (PutAt.tp he h3)))))
  | .letp rs a, v, ⟨r, b, xs, x, e, h, hb, h1, h2⟩ => by
    subst e
    exact .tup h (.cons (.str _) (.cons (.tup hb (PutRows.tp he h1)) (.one (PutAt.tp he h2))))
  | .shut a, v, h => h
theorem PutRows.tp {env : Str → Option Part} (he : EnvAt H dv env) : ∀ {r : Rows} {vs : List V}, PutRows H dv r vs → Tps H vs (r.put env).datas
  | .nil, vs, h => by
    have : vs = [] := h
    rw [this]
    exact .nil
  | .cons x a r, vs, ⟨c, u, us, e, h, h1, h2⟩ => by
    subst e
    exact .cons (.tup h (.cons (.str _) (.one (PutAt.tp he h1)))) (PutRows.tp he h2)
end
/-- values that == finds alike at once -/
def FlatDv (dv : Str → Option V) : Prop := ∀ x u, dv x = some u → ∃ a, u = .ref a
mutual
/-- how deep likeness goes -/
def Part.ld : Part → Nat
  | .num _ => 3
  | .name _ => 3
  | .fn _ => 3
  | .one _ a => 1 + max 1 a.ld
  | .two _ a b => 1 + max 1 (max a.ld b.ld)
  | .whn a b c => 1 + max 1 (max a.ld (max b.ld c.ld))
  | .letp r a => 1 + max (1 + r.ld) a.ld
  | .shut a => 2 + PyData.depth a.data
def Rows.ld : Rows → Nat
  | .nil => 1
  | .cons _ a r => max (1 + max 1 a.ld) r.ld
end
mutual
theorem PutAt.like {K : PySem.W.Frag} (hd : FlatDv dv) : ∀ {p : Part} {v v' : V}, PutAt H dv p v → PutAt H dv p v' → Lk K H p.ld v v'
  | .num n, v, v', h, h' => Tp.like h h' (by simp [Part.data, PyData.depth, PyData.depthAll, Part.ld])
  | .name x, v, v', h, h' => by
    unfold PutAt at h h'
    cases e : dv x with
    | none =>
      rw [e] at h h'
      exact Tp.like h h' (by simp [Part.data, PyData.depth, PyData.depthAll, Part.ld])
    | some u =>
      rw [e] at h h'
      obtain ⟨a, rfl, h⟩ := h
      obtain ⟨b, rfl, h'⟩ := h'
      obtain ⟨c, rfl⟩ := hd x u e
      exact .tup (n := 2) h h' (.cons (.flat rfl) (.cons .same .nil))
  | .fn f, v, v', h, h' => Tp.like h h' (by simp [Part.data, PyData.depth, PyData.depthAll, Part.ld])
  | .one k a, v, v', ⟨r, x, e, h, h1⟩, ⟨r', x', e', h', h1'⟩ => by
    subst e; subst e'
    have i1 := (PutAt.like (K := K) hd h1 h1').up (show a.ld ≤ max 1 a.ld from by omega)
    have i0 : Lk K H (max 1 a.ld) (.str k.word) (.str k.word) := Lk.up (n := 1) (by omega) (.flat rfl)
    have := Lk.tup h h' (.cons i0 (.cons i1 .nil))
    exact this.up (by show _ ≤ 1 + max 1 a.ld; omega)
  | .two k a b, v, v', ⟨r, x, y, e, h, h1, h2⟩, ⟨r', x', y', e', h', h1', h2'⟩ => by
    subst e; subst e'
    have i1 := (PutAt.like (K := K) hd h1 h1').up (show a.ld ≤ max 1 (max a.ld b.ld) from by omega)
    have i2 := (PutAt.like (K := K) hd h2 h2').up (show b.ld ≤ max 1 (max a.ld b.ld) from by omega)
    have i0 : Lk K H (max 1 (max a.ld b.ld)) (.str k.word) (.str k.word) := Lk.up (n := 1) (by omega) (.flat rfl)
    exact (Lk.tup h h' (.cons i0 (.cons i1 (.cons i2 .nil)))).up (by show _ ≤ 1 + max 1 (max a.ld b.ld); omega)
  | .whn a b c, v, v', ⟨r, x, y, z, e, h, h1, h2, h3⟩, ⟨r', x', y', z', e', h', h1', h2', h3'⟩ => by
    subst e; subst e'
    have i1 := (PutAt.like (K := K) hd h1 h1').up (show a.ld ≤ max 1 (max a.ld (max b.ld c.ld)) from by omega)
    have i2 := (PutAt.like (K := K) hd h2 h2').up (show b.ld ≤ max 1 (max a.ld (max b.ld c.ld)) from by omega)
    have i3 := (PutAt.like (K := K) hd h3 h3').up (show c.ld ≤ max 1 (max a.ld (max b.ld c.ld)) from by omega)
    have i0 : Lk K H (max 1 (max a.ld (max b.ld c.ld))) (.str "when") (.str "when") := Lk.up (n := 1) (by omega) (.flat rfl)
    exact (Lk.tup h h' (.cons i0 (.cons i1 (.cons i2 (.cons i3 .nil))))).up (by show _ ≤ 1 + max 1 (max a.ld (max b.ld c.ld)); omega)
  | .letp rs a, v, v', ⟨r, b, xs, x, e, h, hb, h1, h2⟩, ⟨r', b', xs', x', e', h', hb', h1', h2'⟩ => by
    subst e; subst e'
    have i2 := (PutAt.like (K := K) hd h2 h2').up (show a.ld ≤ max (1 + rs.ld) a.ld from by omega)
    have i1 := (Lk.tup hb hb' (PutRows.like (K := K) hd h1 h1')).up (show rs.ld + 1 ≤ max (1 + rs.ld) a.ld from by omega)
    have i0 : Lk K H (max (1 + rs.ld) a.ld) (.str "let") (.str "let") := Lk.up (n := 1) (by omega) (.flat rfl)
    exact (Lk.tup h h' (.cons i0 (.cons i1 (.cons i2 .nil)))).up (by show _ ≤ 1 + max (1 + rs.ld) a.ld; omega)
  | .shut a, v, v', h, h' => Tp.like h h' (by simp [Part.data, PyData.depth, PyData.depthAll, Part.ld]; omega)
theorem PutRows.like {K : PySem.W.Frag} (hd : FlatDv dv) : ∀ {r : Rows} {vs vs' : List V}, PutRows H dv r vs → PutRows H dv r vs' → Paired (Lk K H r.ld) vs vs'
  | .nil, vs, vs', h, h' => by
    have e : vs = [] := h
    have e' : vs' = [] := h'
    rw [e, e']
    exact .nil
  | .cons x a r, vs, vs', ⟨c, u, us, e, h, h1, h2⟩, ⟨c', u', us', e', h', h1', h2'⟩ => by
    subst e; subst e'
    have i1 := (PutAt.like (K := K) hd h1 h1').up (show a.ld ≤ max 1 a.ld from by omega)
    have i0 : Lk K H (max 1 a.ld) (.str x) (.str x) := Lk.up (n := 1) (by omega) (.flat rfl)
    have i := (Lk.tup h h' (.cons i0 (.cons i1 .nil))).up (show max 1 a.ld + 1 ≤ (Rows.cons x a r).ld from by show _ ≤ max (1 + max 1 a.ld) r.ld; omega)
    have rest := PutRows.like (K := K) hd h2 h2'
    have ru : ∀ {xs ys : List V}, Paired (Lk K H r.ld) xs ys → Paired (Lk K H (Rows.cons x a r).ld) xs ys := by
      intro xs ys p
      induction p with
      | nil => exact .nil
      | cons a _ ih => exact .cons (a.up (by show r.ld ≤ max _ r.ld; omega)) ih
    exact .cons i (ru rest)
end
end
/-! ### programs' words -/
def numS (n : Int) : Str := Str.ofString (toString n)
theorem numS_len {n : Int} (h : n.natAbs < 10 ^ 60) : (numS n).length ≤ 61 := by
  unfold numS
  cases n with
  | ofNat m =>
    have h1 : (Int.ofNat m) < 10 ^ 60 := by
      have : (Int.ofNat m).natAbs = m := rfl
      show (m : Int) < 10 ^ 60
      omega
    have := PyProof.Rows.toString_length_le (v := Int.ofNat m) (Int.natCast_nonneg m) (k := 60) (by decide) h1
    omega
  | negSucc m =>
    have h1 : ((m + 1 : Nat) : Int) < 10 ^ 60 := by
      have : (Int.negSucc m).natAbs = m + 1 := rfl
      omega
    have h2 := PyProof.Rows.toString_length_le (v := ((m + 1 : Nat) : Int)) (Int.natCast_nonneg _) (k := 60) (by decide) h1
    rw [PyProof.Rows.ofString_length] at h2 ⊢
    have h3 : toString (Int.negSucc m) = "-" ++ toString ((m + 1 : Nat) : Int) := rfl
    rw [h3, String.toList_append, List.length_append]
    have : ("-" : String).toList.length = 1 := by decide
    omega
theorem log_small {n : Int} (h : n.natAbs < 10 ^ 60) : n.natAbs.log2 < 1920 := by
  by_cases h0 : n.natAbs = 0
  · rw [h0]; decide
  · have : n.natAbs.log2 < 200 := by
      rw [Nat.log2_lt h0]
      exact Nat.lt_trans h (by decide)
    omega
mutual
def Part.words : Part → List Str
  | .num n => [numS n]
  | .name x => ["." ++ x]
  | .fn f => [":" ++ f]
  | .one k a => k.word :: a.words
  | .two k a b => k.word :: (a.words ++ b.words)
  | .whn a b c => "when" :: (a.words ++ (b.words ++ c.words))
  | .letp r a => "let" :: numS r.parts.length :: (r.words ++ a.words)
  | .shut _ => []
def Rows.words : Rows → List Str
  | .nil => []
  | .cons x a r => ("." ++ x) :: (a.words ++ r.words)
end
def rwords (q : Str × Part) : List Str := ("." ++ q.1) :: q.2.words
theorem str_ext {a b : Str} (h : a.cps.toList = b.cps.toList) : a = b := by
  rw [← SX.S_tl a, ← SX.S_tl b, h]
/-! ### alike -/
theorem Tp.likeR {K : PySem.W.Frag} {H : Hp} {ds : List PyData} {v v' : V} {n : Nat} (h : Tp H v (.tuple ds)) (h' : Tp H v' (.tuple ds)) (hn : PyData.depthAll ds < n) : LkR K H (Lk K H n) v v' := by
  cases h with
  | tup e r =>
    cases h' with
    | tup e' r' => exact .inr ⟨_, _, _, _, rfl, rfl, .of e, .of e', Tps.like r r' hn⟩
theorem Part.depthAll (p : Part) : PyData.depthAll (.str p.word :: p.args) < PyData.depth p.data := by
  rw [p.data_eq, PyData.depth]
  omega
section
variable {K : PySem.W.Frag} {H : Hp} {x y : V} {Q : VK}
theorem g_eqLk {n : Nat} (h : LkR K H (Lk K H n) x y) (hn : n ≤ 150) (q : Q (.bl true) H) : rEqG K x y H Q := .inr (.inr (.inr (.inl ⟨n, hn, h, q⟩)))
end

/-! ### rows: the steps that build a part -/
/-- the step by which a name comes: its word, its number -/
abbrev Way := Str × Nat
def wayD (w : Way) : PyData := .tuple [.str w.1, .int w.2]
mutual
def Part.bld (ws : Str → Way) : Part → List PyData
  | .num n => [(Part.num n).data]
  | .name x => [wayD (ws x)]
  | .fn f => [(Part.fn f).data]
  | .one k a => a.bld ws ++ [.tuple [.str k.word]]
  | .two k a b => a.bld ws ++ b.bld ws ++ [.tuple [.str k.word]]
  | .whn a b c => a.bld ws ++ b.bld ws ++ c.bld ws ++ [.tuple [.str "when"]]
  | .letp r a => .tuple [.str "room", .int (ws (r.names.headD "")).2, .int r.names.length] :: (r.opn ws ++ a.bld ws)
  | .shut _ => []
def Rows.opn (ws : Str → Way) : Rows → List PyData
  | .nil => []
  | .cons x a r => a.bld ws ++ .tuple [.str "tie", .int (ws x).2] :: r.opn ws
end
def Rows.opened (ws : Str → Way) (r : Rows) : List PyData := .tuple [.str "room", .int (ws (r.names.headD "")).2, .int r.names.length] :: r.opn ws
theorem Part.bld_let (ws : Str → Way) (r : Rows) (a : Part) : (Part.letp r a).bld ws = r.opened ws ++ a.bld ws := rfl
def tieD (ws : Str → Way) (x : Str) : PyData := .tuple [.str "tie", .int (ws x).2]
theorem Rows.opn_list (ws : Str → Way) : ∀ r : Rows, r.opn ws = r.list.flatMap fun q => q.2.bld ws ++ [tieD ws q.1]
  | .nil => rfl
  | .cons x a r => by
    show a.bld ws ++ tieD ws x :: r.opn ws = ((x, a) :: r.list).flatMap _
    rw [List.flatMap_cons, Rows.opn_list ws r]
    simp
theorem Part.bld_kids (ws : Str → Way) {p : Part} (hw : plainWord p.word) (hs : p.word ≠ "shut") : p.bld ws = p.kids.flatMap (Part.bld ws) ++ [.tuple [.str p.word]] := by
  cases p with
  | one k a => simp [Part.bld, Part.kids, Part.word]
  | two k a b => simp [Part.bld, Part.kids, Part.word]
  | whn a b c => simp [Part.bld, Part.kids, Part.word]
  | shut a => exact absurd rfl hs
  | num n => exact absurd (show ("number" : Str) ∈ [("number" : Str), "fun", "let", "name"] from by simp) hw
  | name n => exact absurd (show ("name" : Str) ∈ [("number" : Str), "fun", "let", "name"] from by simp) hw
  | fn n => exact absurd (show ("fun" : Str) ∈ [("number" : Str), "fun", "let", "name"] from by simp) hw
  | letp r a => exact absurd (show ("let" : Str) ∈ [("number" : Str), "fun", "let", "name"] from by simp) hw
-- what names there are: all that a part names or binds is among dom
mutual
def Part.inD (dom : List Str) : Part → Prop
  | .num n => n.natAbs < 10 ^ 60
  | .name x => x ∈ dom
  | .fn f => isName f
  | .one _ a => a.inD dom
  | .two _ a b => a.inD dom ∧ b.inD dom
  | .whn a b c => a.inD dom ∧ b.inD dom ∧ c.inD dom
  | .letp r a => r.names.length ≤ 4 ∧ r.names ≠ [] ∧ r.inD dom ∧ a.inD dom
  | .shut _ => False
def Rows.inD (dom : List Str) : Rows → Prop
  | .nil => True
  | .cons x a r => x ∈ dom ∧ a.inD dom ∧ r.inD dom
end
theorem Part.inD_kids {dom : List Str} {p : Part} (hw : plainWord p.word) (h : p.inD dom) : ∀ q ∈ p.kids, q.inD dom := by
  cases p with
  | one k a => intro x hx; rw [List.mem_singleton.mp hx]; exact h
  | two k a b =>
    intro x hx
    have hx' : x ∈ [a, b] := hx
    simp only [List.mem_cons, List.not_mem_nil, or_false] at hx'
    rcases hx' with rfl | rfl
    · exact h.1
    · exact h.2
  | whn a b c =>
    intro x hx
    have hx' : x ∈ [a, b, c] := hx
    simp only [List.mem_cons, List.not_mem_nil, or_false] at hx'
    rcases hx' with rfl | rfl | rfl
    · exact h.1
    · exact h.2.1
    · exact h.2.2
  | shut a => exact h.elim
  | num n => exact absurd (show ("number" : Str) ∈ [("number" : Str), "fun", "let", "name"] from by simp) hw
  | name n => exact absurd (show ("name" : Str) ∈ [("number" : Str), "fun", "let", "name"] from by simp) hw
  | fn n => exact absurd (show ("fun" : Str) ∈ [("number" : Str), "fun", "let", "name"] from by simp) hw
  | letp r a => exact absurd (show ("let" : Str) ∈ [("number" : Str), "fun", "let", "name"] from by simp) hw
theorem Rows.inD_list {dom : List Str} : ∀ {r : Rows}, r.inD dom → ∀ q ∈ r.list, q.1 ∈ dom ∧ q.2.inD dom
  | .nil, _, q, hq => absurd hq (by simp [Rows.list])
  | .cons x a r, h, q, hq => by
    have hq' : q ∈ (x, a) :: r.list := hq
    rcases List.mem_cons.mp hq' with rfl | hq'
    · exact ⟨h.1, h.2.1⟩
    · exact Rows.inD_list (r := r) h.2.2 q hq'
-- how many steps at most
mutual
theorem Part.bld_len (ws : Str → Way) : ∀ p : Part, (p.bld ws).length + 1 ≤ 4 * p.size
  | .num n => by show 1 + 1 ≤ 4 * 1; omega
  | .name x => by show 1 + 1 ≤ 4 * 1; omega
  | .fn f => by show 1 + 1 ≤ 4 * 1; omega
  | .one k a => by
    have h := a.bld_len ws
    show (a.bld ws ++ [_]).length + 1 ≤ 4 * (1 + a.size)
    rw [List.length_append, List.length_singleton]
    omega
  | .two k a b => by
    have h := a.bld_len ws
    have h2 := b.bld_len ws
    show (a.bld ws ++ b.bld ws ++ [_]).length + 1 ≤ 4 * (1 + (a.size + b.size))
    rw [List.length_append, List.length_append, List.length_singleton]
    omega
  | .whn a b c => by
    have h := a.bld_len ws
    have h2 := b.bld_len ws
    have h3 := c.bld_len ws
    show (a.bld ws ++ b.bld ws ++ c.bld ws ++ [_]).length + 1 ≤ 4 * (1 + (a.size + (b.size + c.size)))
    rw [List.length_append, List.length_append, List.length_append, List.length_singleton]
    omega
  | .letp r a => by
    have h := r.opn_len ws
    have h2 := a.bld_len ws
    show (_ :: (r.opn ws ++ a.bld ws)).length + 1 ≤ 4 * (1 + (r.size + a.size))
    rw [List.length_cons, List.length_append]
    omega
  | .shut a => by show 0 + 1 ≤ 4 * 1; omega
theorem Rows.opn_len (ws : Str → Way) : ∀ r : Rows, (r.opn ws).length ≤ 4 * r.size
  | .nil => Nat.zero_le _
  | .cons x a r => by
    have h := a.bld_len ws
    have h2 := r.opn_len ws
    show (a.bld ws ++ _ :: r.opn ws).length ≤ 4 * (a.size + r.size)
    rw [List.length_append, List.length_cons]
    omega
end
theorem flat_bld_len (ws : Str → Way) : ∀ ps : List Part, (ps.flatMap (Part.bld ws)).length ≤ 4 * sz ps
  | [] => Nat.zero_le _
  | p :: ps => by
    have h := p.bld_len ws
    have h2 := flat_bld_len ws ps
    show _ ≤ 4 * (p.size + sz ps)
    rw [List.flatMap_cons, List.length_append]
    omega
theorem sz_take_le : ∀ (ps : List Part) (i : Nat), sz (ps.take i) ≤ sz ps
  | [], _ => by simp [sz]
  | _ :: _, 0 => Nat.zero_le _
  | p :: ps, i + 1 => by
    have := sz_take_le ps i
    show p.size + sz (ps.take i) ≤ p.size + sz ps
    omega
/-- the dict of ways on the heap -/
def WaysAt (H : Hp) (d : Addr) (dom : List Str) (ws : Str → Way) : Prop := ∃ kvs, H d = some (.dK kvs) ∧ ∀ x ∈ dom, ∃ u a, valV kvs (Sum.inr x) = some u ∧ u = .ref a ∧ H a = some (.tup [.str (ws x).1, .int (ws x).2])
theorem WaysAt.same {H H' : Hp} {d : Addr} {dom : List Str} {ws : Str → Way} (h : WaysAt H d dom ws) (s : Same H H') : WaysAt H' d dom ws := by
  obtain ⟨kvs, e, f⟩ := h
  refine ⟨kvs, s _ _ e, fun x hx => ?_⟩
  obtain ⟨u, a, h1, h2, h3⟩ := f x hx
  exact ⟨u, a, h1, h2, s _ _ h3⟩
theorem g_ixW {K : PySem.W.Frag} {w : World} {H : Hp} {d : Addr} {dom : List Str} {ws : Str → Way} {x : Str} {Q : VK} (h : WaysAt H d dom ws) (hx : x ∈ dom) (q : ∀ a, H a = some (.tup [.str (ws x).1, .int (ws x).2]) → Q (.ref a) H) : rIxG K w (.ref d) (.str x) H Q := by
  obtain ⟨kvs, e, f⟩ := h
  obtain ⟨u, a, h1, rfl, h3⟩ := f x hx
  exact g_ixD e (k := .inr x) rfl h1 (q a h3)
structure RowsPre (H : Hp) (p : Part) (d : Addr) (dom : List Str) (ws : Str → Way) : Prop where
  g : p.good
  z : p.size ≤ 60
  n : p.inD dom
  w : WaysAt H d dom ws
def spBuild (m : Nat) : Sp := fun vs H Q _ => ∃ (v : V) (p : Part) (d : Addr) (dom : List Str) (ws : Str → Way), vs = [v, .ref d] ∧ Tp H v p.data ∧ RowsPre H p d dom ws ∧ p.deep ≤ m ∧
  ∀ (l : Addr) (us : List V) (H' : Hp), H l = none → H' l = some (.lst us) → Tps H' us (p.bld ws) → Same H H' → Q (.ref l) H'
def spOpen (m : Nat) : Sp := fun vs H Q _ => ∃ (v : V) (r : Rows) (a : Part) (d : Addr) (dom : List Str) (ws : Str → Way), vs = [v, .ref d] ∧ Tp H v (Part.letp r a).data ∧ RowsPre H (.letp r a) d dom ws ∧ (Part.letp r a).deep ≤ m + 1 ∧
  ∀ (l : Addr) (us : List V) (H' : Hp), H l = none → H' l = some (.lst us) → Tps H' us (r.opened ws) → Same H H' → Q (.ref l) H'
theorem RowsPre.kid {H H' : Hp} {p q : Part} {d : Addr} {dom : List Str} {ws : Str → Way} (h : RowsPre H p d dom ws) (hw : plainWord p.word) (hq : q ∈ p.kids) (s : Same H H') : RowsPre H' q d dom ws :=
  ⟨h.g.kids q hq, by have := p.sz_kids; have := sz_mem hq; have := h.z; omega, Part.inD_kids hw h.n q hq, h.w.same s⟩
theorem pure_building {K : PySem.W.Frag} {w : World} {m : Nat} : PureOk 2 (spBuild (m + 1)) (t_building K w (spOpen m) (spBuild m) spKids) 5 := by
  refine ⟨fun vs H Q E ⟨_, _, _, _, _, e, _⟩ => by rw [e]; rfl, ?_⟩
  rintro vs H Q E ⟨v, p, d, dom, ws, rfl, t, h, hm, q⟩
  show t_building K w _ _ _ _ [some v, some (.ref d), none, none, none] H
  unfold t_building
  rcases word_cases p with ⟨n, rfl⟩ | ⟨x, rfl⟩ | ⟨f, rfl⟩ | ⟨r, b, rfl⟩ | ⟨b, rfl⟩ | ⟨hw, hs⟩
  · obtain ⟨a, u1, u2, rfl, ea, t1, t2⟩ := id t.two
    rw [t1.str_inv, t2.int_inv] at ea
    walk_at "gg"
    rename_i a1 H1 n1 e1 s1 a2 H2 n2 e2 s2
    exact q a2 _ H2 (s1.free n2) e2 (.one (t.mono (Same.tk (s1.trans s2)))) (s1.trans s2)
  · obtain ⟨a, u1, u2, rfl, ea, t1, t2⟩ := id t.two
    rw [t1.str_inv, t2.str_inv] at ea
    walk_at "gg"
    refine g_ixW h.w h.n fun a3 e3 => ?_
    walk_at "gg"
    rename_i a2 H2 n2 e2 s2
    exact q a2 _ H2 n2 e2 (.one (.tup (s2 _ _ e3) (.cons (.str _) (.one (.int _))))) s2
  · obtain ⟨a, u1, u2, rfl, ea, t1, t2⟩ := id t.two
    rw [t1.str_inv, t2.str_inv] at ea
    walk_at "gg"
    rename_i a1 H1 n1 e1 s1 a2 H2 n2 e2 s2
    exact q a2 _ H2 (s1.free n2) e2 (.one (t.mono (Same.tk (s1.trans s2)))) (s1.trans s2)
  · obtain ⟨a, u1, u2, u3, rfl, ea, t1, t2, t3⟩ := id t.three
    rw [t1.str_inv] at ea
    walk_at "gg"
    rename_i a1 H1 n1 e1 s1
    walk_at "gg"
    have h1 : RowsPre H1 (.letp r b) d dom ws := ⟨h.g, h.z, h.n, h.w.same s1⟩
    refine ⟨_, r, b, d, dom, ws, rfl, t.mono (Same.tk s1), h1, hm, fun l us H2 nl el tu s2 => ?_⟩
    have ea2 := s2 _ _ (s1 _ _ ea)
    walk_at "gg"
    have hbk : b ∈ (Part.letp r b).kids := List.mem_append.mpr (.inr (by simp))
    have hbs := (Part.letp r b).sz_kids
    have hbz := sz_mem hbk
    have hbd := (Part.letp r b).mxd_kids
    have hbd2 : b.deep ≤ m := by have : (Part.letp r b).deep = 1 + max r.deep b.deep := rfl; omega
    have hz := h.z
    refine ⟨u3, b, d, dom, ws, rfl, t3.mono (Same.tk (s1.trans s2)), ⟨h.g.kids b hbk, by omega, h.n.2.2.2, h1.w.same s2⟩, hbd2, fun l3 us3 H3 nl3 el3 tu3 s3 => ?_⟩
    have l1 : us.length ≤ 1000 := by
      rw [tu.length]
      have := r.opn_len ws
      have : (Part.letp r b).size = 1 + (r.size + b.size) := rfl
      show (_ :: _ : List PyData).length ≤ _
      rw [List.length_cons]
      omega
    have l2 : us3.length ≤ 1000 := by rw [tu3.length]; have := b.bld_len ws; omega
    refine g_addL (s3 _ _ el) el3 (by show _ ≤ 16777216; omega) ?_
    walk_at "gg"
    rename_i a4 H4 n4 e4 s4
    exact q a4 _ H4 (s1.free (s2.free (s3.free n4))) e4 (Tps.append ((tu.mono (Same.tk (s3.trans s4)))) (tu3.mono (Same.tk s4))) (s1.trans (s2.trans (s3.trans s4)))
  · exact h.n.elim
  · obtain ⟨a, xs, rfl, ea, tx⟩ := id t.part
    have hwn : decide (p.word = "name") = false := decide_eq_false (not_name hw)
    have hwl : decide (p.word = "let") = false := decide_eq_false fun e => hw (by rw [e]; simp)
    walk_at "gg"
    refine g_F hwn ?_
    walk_at "gg"
    rename_i a1 H1 n1 e1 s1
    refine g_inX (r := false) e1 rfl ?_ ?_
    · have hx : p.word ∉ [("number" : Str), "fun"] := fun hx => hw (by
        simp only [List.mem_cons, List.not_mem_nil, or_false] at hx ⊢
        rcases hx with hx | hx
        · exact .inl hx
        · exact .inr (.inl hx))
      have := inV_str (k := p.word) [("number" : Str), "fun"]
      rw [decide_eq_false hx] at this
      exact this
    walk_at "gg"
    refine g_F hwl ?_
    walk_at "gg"
    rename_i fl H2 n2 e2 s2
    have s12 := s1.trans s2
    walk_at "gg"
    refine g_seqL ?_
    walk_at "gg"
    refine ⟨.ref a, p, rfl, t.mono (Same.tk s12), h.g, h.z, fun kl ks H3 nk ek tk s3 => ?_⟩
    have s13 := s12.trans s3
    walk_at "gg"
    have hkl : ks.length = p.kids.length := by rw [tk.length, List.length_map]
    have hfl : H fl = none := s1.free n2
    have hkf : kl ≠ fl := fun e => by rw [e] at nk; rw [nk] at e2; cases e2
    refine for_L (xs := ks) (fun i σ H' => ∃ (x4 : Option V) (us : List V), σ = [some (.ref a), some (.ref d), some (.str p.word), some (.ref fl), x4] ∧ H' fl = some (.lst us) ∧ Tps H' us ((p.kids.take i).flatMap (Part.bld ws)) ∧ H' kl = some (.lst ks) ∧ Same H H' ∧ Chg fl H3 H')
      (fun i σ H' ⟨_, _, _, _, _, e, _⟩ => e) ⟨none, [], rfl, s3 _ _ e2, .nil, ek, s13, .refl⟩ ?_ ?_
    · rintro i x σ H4 hx ⟨x4, us, rfl, ef, tu, ek4, s4, c4⟩
      obtain ⟨dd, hdd, tx4⟩ := (tk.mono (c4.tkl (s3 _ _ e2))).get hx
      rw [List.getElem?_map] at hdd
      obtain ⟨p2, hp2, rfl⟩ := Option.map_eq_some_iff.mp hdd
      have hpm := List.mem_of_getElem? hp2
      walk_at "gg"
      have hd2 := p.mxd_kids
      have hd3 := mxd_mem hpm
      refine ⟨x, p2, d, dom, ws, rfl, tx4, h.kid hw hpm s4, by omega, fun l5 us5 H5 nl5 el5 tu5 s5 => ?_⟩
      have ef5 := s5 _ _ ef
      have hl1 := flat_bld_len ws (p.kids.take i)
      have hl2 := sz_take_le p.kids i
      have hl3 := p.sz_kids
      have hl4 := p2.bld_len ws
      have hl5 := sz_mem hpm
      have hz := h.z
      walk_at "gg"
      refine g_extend ef5 el5 (by rw [tu.length, tu5.length]; show _ ≤ 16777216; omega) ?_
      walk_at "gg"
      rename_i H6 e6 c6
      have k6 : Tk H5 H6 := c6.tkl ef5
      have nl : l5 ≠ fl := fun e => by rw [e] at nl5; rw [nl5] at ef; cases ef
      refine ⟨_, us ++ us5, rfl, e6, ?_, c6 _ _ hkf (s5 _ _ ek4), fun b o e => c6 b o (ne_of_none e hfl) (s5 b o (s4 b o e)), c4.trans ((Chg.same s5).trans c6)⟩
      rw [List.take_add_one, hp2, Option.toList_some, List.flatMap_append, List.flatMap_singleton]
      exact Tps.append ((tu.mono (Same.tk s5)).mono k6) (tu5.mono k6)
    · rintro σ H4 ⟨x4, us, rfl, ef, tu, ek4, s4, c4⟩
      rw [hkl, List.take_length] at tu
      walk_at "gg"
      rename_i a5 H5 n5 e5 s5 a6 H6 n6 e6 s6
      have hl1 := flat_bld_len ws p.kids
      have hl3 := p.sz_kids
      have hz := h.z
      refine g_addL (s6 _ _ (s5 _ _ ef)) e6 (by rw [tu.length]; simp only [List.length_singleton]; show _ ≤ 16777216; omega) ?_
      walk_at "gg"
      rename_i a7 H7 n7 e7 s7
      have s47 := s5.trans (s6.trans s7)
      refine q a7 _ H7 (s4.free (s5.free (s6.free n7))) e7 ?_ (s4.trans s47)
      rw [Part.bld_kids ws hw hs]
      exact Tps.append (tu.mono (Same.tk s47)) (.one (.tup (s7 _ _ (s6 _ _ e5)) (.one (.str _))))

/-! ### rows: a let opened; a law's own building -/
theorem Rows.opened_eq (ws : Str → Way) (r : Rows) : r.opened ws = .tuple [.str "room", .int (ws (r.names.headD "")).2, .int r.names.length] :: r.list.flatMap (fun q => q.2.bld ws ++ [tieD ws q.1]) := by rw [Rows.opened, Rows.opn_list]
theorem rowD_inv {H : Hp} {v : V} {q : Str × Part} (h : Tp H v (rowD q)) : ∃ c u, v = .ref c ∧ H c = some (.tup [.str q.1, u]) ∧ Tp H u q.2.data := by
  obtain ⟨c, x, u, rfl, e, t1, t2⟩ := Tp.two (d := .str q.1) (e := q.2.data) h
  rw [t1.str_inv] at e
  exact ⟨c, u, rfl, e, t2⟩
theorem open_len (ws : Str → Way) (l : List (Str × Part)) : (l.flatMap fun q => q.2.bld ws ++ [tieD ws q.1]).length ≤ 4 * sz (l.map (·.2)) := by
  induction l with
  | nil => exact Nat.zero_le _
  | cons q l ih =>
    have := q.2.bld_len ws
    show _ ≤ 4 * (q.2.size + sz (l.map (·.2)))
    rw [List.flatMap_cons, List.length_append, List.length_append, List.length_singleton]
    omega
theorem sz_list_take (l : List (Str × Part)) (i : Nat) : sz ((l.take i).map (·.2)) ≤ sz (l.map (·.2)) := by
  rw [List.map_take]
  exact sz_take_le _ _
/-- what is known of a let's rows -/
theorem RowsPre.rows {H : Hp} {r : Rows} {b : Part} {d : Addr} {dom : List Str} {ws : Str → Way} {m : Nat} (h : RowsPre H (.letp r b) d dom ws) (hm : (Part.letp r b).deep ≤ m + 1) {q : Str × Part} (hq : q ∈ r.list) :
    q.1 ∈ dom ∧ q.2.inD dom ∧ q.2.good ∧ q.2.size ≤ 60 ∧ q.2.deep ≤ m ∧ sz (r.list.map (·.2)) ≤ 60 := by
  have hk : q.2 ∈ (Part.letp r b).kids := List.mem_append.mpr (.inl (by rw [Rows.list_parts]; exact List.mem_map.mpr ⟨q, hq, rfl⟩))
  have h1 := (Part.letp r b).sz_kids
  have h2 := sz_mem hk
  have h3 := (Part.letp r b).mxd_kids
  have h4 := mxd_mem hk
  have h5 := h.z
  have h6 := Rows.inD_list h.n.2.2.1 q hq
  have h7 : sz (r.list.map (·.2)) ≤ sz (Part.letp r b).kids := by
    show _ ≤ sz (r.parts ++ [b])
    rw [sz_app, Rows.list_parts]
    omega
  exact ⟨h6.1, h6.2, h.g.kids _ hk, by omega, by omega, by omega⟩
theorem Rows.first {r : Rows} (h : r.names ≠ []) : ∃ q l, r.list = q :: l ∧ r.names.headD "" = q.1 := by
  cases r with
  | nil => exact absurd rfl h
  | cons x a r => exact ⟨(x, a), r.list, rfl, rfl⟩
theorem pure_opening {K : PySem.W.Frag} {w : World} {m : Nat} : PureOk 2 (spOpen m) (t_opening K w (spBuild m)) 6 := by
  refine ⟨fun vs H Q E ⟨_, _, _, _, _, _, e, _⟩ => by rw [e]; rfl, ?_⟩
  rintro vs H Q E ⟨v, r, b, d, dom, ws, rfl, t, h, hm, q⟩
  show t_opening K w _ _ [some v, some (.ref d), none, none, none, none] H
  unfold t_opening
  obtain ⟨a, u1, u2, u3, rfl, ea, t1, t2, t3⟩ := id t.three
  rw [t1.str_inv] at ea
  obtain ⟨ra, rs, rfl, er, tr⟩ := t2.tup_inv
  rw [Rows.list_datas] at tr
  have hrl : rs.length = r.list.length := by rw [tr.length, List.length_map]
  obtain ⟨q0, l0, hl0, hq0⟩ := Rows.first h.n.2.1
  have hq0m : q0 ∈ r.list := by rw [hl0]; simp
  obtain ⟨v0, hv0, tv0⟩ := tr.at (i := 0) (d := rowD q0) (by rw [hl0]; rfl)
  obtain ⟨c0, u0, rfl, ec0, _⟩ := rowD_inv tv0
  have hd0 := (h.rows hm hq0m).1
  walk_at "gg"
  refine g_ixTa er hv0 (by decide) ?_
  walk_at "gg"
  refine g_ixW h.w hd0 fun a3 e3 => ?_
  walk_at "gg"
  rename_i a1 H1 n1 e1 s1 fl H2 n2 e2 s2
  have s12 := s1.trans s2
  walk_at "gg"
  refine g_seqT ?_
  walk_at "gg"
  have hfl : H fl = none := s1.free n2
  have hnl : r.names.length = rs.length := by rw [hrl, Rows.list_names, List.length_map]
  refine for_T (xs := rs) (fun i σ H' => ∃ (x4 x5 : Option V) (us : List V), σ = [some (.ref a), some (.ref d), some (.int (ws q0.1).2), some (.ref fl), x4, x5] ∧ H' fl = some (.lst us) ∧
      Tps H' us (.tuple [.str "room", .int (ws (r.names.headD "")).2, .int r.names.length] :: (r.list.take i).flatMap fun q => q.2.bld ws ++ [tieD ws q.1]) ∧ Same H H')
    (fun i σ H' ⟨_, _, _, _, _, _, s⟩ => s _ _ er) ⟨none, none, _, rfl, e2, .one (.tup (s2 _ _ e1) (by rw [hq0, hnl]; exact .cons (.str _) (.cons (.int _) (.one (.int _))))), s12⟩ ?_ ?_
  · rintro i x σ H4 hx ⟨x4, x5, us, rfl, ef, tu, s4⟩
    obtain ⟨dd, hdd, tx4⟩ := (tr.mono (Same.tk s4)).get hx
    rw [List.getElem?_map] at hdd
    obtain ⟨q2, hq2, rfl⟩ := Option.map_eq_some_iff.mp hdd
    have hqm := List.mem_of_getElem? hq2
    obtain ⟨hq_d, hq_n, hq_g, hq_z, hq_m, hq_s⟩ := h.rows hm hqm
    obtain ⟨c2, u2, rfl, ec2, tu2⟩ := rowD_inv tx4
    walk_at "gg"
    refine ⟨u2, q2.2, d, dom, ws, rfl, tu2, ⟨hq_g, hq_z, hq_n, h.w.same s4⟩, hq_m, fun l5 us5 H5 nl5 el5 tu5 s5 => ?_⟩
    have ef5 := s5 _ _ ef
    have hl1 := open_len ws (r.list.take i)
    have hl2 := sz_list_take r.list i
    have hl4 := q2.2.bld_len ws
    have hul : us.length ≤ 300 := by rw [tu.length, List.length_cons]; omega
    have hul5 : us5.length ≤ 300 := by rw [tu5.length]; omega
    walk_at "gg"
    refine g_extend ef5 el5 (by show _ ≤ 16777216; omega) ?_
    walk_at "gg"
    rename_i H6 e6 c6
    have k6 : Tk H5 H6 := c6.tkl ef5
    have s46 : Same H H6 := fun b o e => c6 b o (ne_of_none e hfl) (s5 b o (s4 b o e))
    walk_at "gg"
    refine g_ixW (h.w.same s46) hq_d fun a7 e7 => ?_
    walk_at "gg"
    rename_i a8 H8 n8 e8 s8
    have e68 := s8 _ _ e6
    walk_at "gg"
    refine g_append e68 (by rw [List.length_append]; show _ < 16777216; omega) ?_
    walk_at "gg"
    rename_i H9 e9 c9
    have k9 : Tk H8 H9 := c9.tkl e68
    refine ⟨_, _, us ++ us5 ++ [.ref a8], rfl, e9, ?_, fun b o e => c9 b o (ne_of_none e hfl) (s8 b o (s46 b o e))⟩
    have k59 : Tk H5 H9 := (k6.trans (Same.tk s8)).trans k9
    rw [List.take_add_one, hq2, Option.toList_some, List.flatMap_append, List.flatMap_singleton, ← List.cons_append, ← List.append_assoc]
    exact Tps.append (Tps.append ((tu.mono (Same.tk s5)).mono k59) (tu5.mono k59)) (.one (.tup (k9 _ _ e8) (.cons (.str _) (.one (.int _)))))
  · rintro σ H4 ⟨x4, x5, us, rfl, ef, tu, s4⟩
    rw [hrl, List.take_length] at tu
    walk_at "gg"
    exact q fl us H4 hfl ef (by rw [Rows.opened_eq]; exact tu) s4
theorem pure_lopened {K : PySem.W.Frag} {w : World} {m : Nat} : PureOk 2 (spOpen m) (t_law_opened K w (spBuild m)) 5 := by
  refine ⟨fun vs H Q E ⟨_, _, _, _, _, _, e, _⟩ => by rw [e]; rfl, ?_⟩
  rintro vs H Q E ⟨v, r, b, d, dom, ws, rfl, t, h, hm, q⟩
  show t_law_opened K w _ _ [some v, some (.ref d), none, none, none] H
  unfold t_law_opened
  obtain ⟨a, u1, u2, u3, rfl, ea, t1, t2, t3⟩ := id t.three
  rw [t1.str_inv] at ea
  obtain ⟨ra, rs, rfl, er, tr⟩ := t2.tup_inv
  rw [Rows.list_datas] at tr
  have hrl : rs.length = r.list.length := by rw [tr.length, List.length_map]
  obtain ⟨q0, l0, hl0, hq0⟩ := Rows.first h.n.2.1
  have hq0m : q0 ∈ r.list := by rw [hl0]; simp
  obtain ⟨v0, hv0, tv0⟩ := tr.at (i := 0) (d := rowD q0) (by rw [hl0]; rfl)
  obtain ⟨c0, u0, rfl, ec0, _⟩ := rowD_inv tv0
  have hd0 := (h.rows hm hq0m).1
  walk_at "gg"
  refine g_ixTa er hv0 (by decide) ?_
  walk_at "gg"
  refine g_ixW h.w hd0 fun a3 e3 => ?_
  walk_at "gg"
  rename_i a1 H1 n1 e1 s1 fl H2 n2 e2 s2
  have s12 := s1.trans s2
  walk_at "gg"
  refine g_seqT ?_
  walk_at "gg"
  have hfl : H fl = none := s1.free n2
  have hnl : r.names.length = rs.length := by rw [hrl, Rows.list_names, List.length_map]
  refine for_T (xs := rs) (fun i σ H' => ∃ (x4 x5 : Option V) (fl : Addr) (us : List V), σ = [some (.ref a), some (.ref d), some (.ref fl), x4, x5] ∧ H fl = none ∧ H' fl = some (.lst us) ∧
      Tps H' us (.tuple [.str "room", .int (ws (r.names.headD "")).2, .int r.names.length] :: (r.list.take i).flatMap fun q => q.2.bld ws ++ [tieD ws q.1]) ∧ Same H H')
    (fun i σ H' ⟨_, _, _, _, _, _, _, _, s⟩ => s _ _ er) ⟨none, none, _, _, rfl, hfl, e2, .one (.tup (s2 _ _ e1) (by rw [hq0, hnl]; exact .cons (.str _) (.cons (.int _) (.one (.int _))))), s12⟩ ?_ ?_
  · clear e1 e2 s1 s2 s12 n1 n2 hfl
    rintro i x σ H4 hx ⟨x4, x5, fl, us, rfl, hfl, ef, tu, s4⟩
    obtain ⟨dd, hdd, tx4⟩ := (tr.mono (Same.tk s4)).get hx
    rw [List.getElem?_map] at hdd
    obtain ⟨q2, hq2, rfl⟩ := Option.map_eq_some_iff.mp hdd
    have hqm := List.mem_of_getElem? hq2
    obtain ⟨hq_d, hq_n, hq_g, hq_z, hq_m, hq_s⟩ := h.rows hm hqm
    obtain ⟨c2, u2, rfl, ec2, tu2⟩ := rowD_inv tx4
    walk_at "gg"
    refine ⟨u2, q2.2, d, dom, ws, rfl, tu2, ⟨hq_g, hq_z, hq_n, h.w.same s4⟩, hq_m, fun l5 us5 H5 nl5 el5 tu5 s5 => ?_⟩
    have ef5 := s5 _ _ ef
    have hl1 := open_len ws (r.list.take i)
    have hl2 := sz_list_take r.list i
    have hl4 := q2.2.bld_len ws
    have hul : us.length ≤ 300 := by rw [tu.length, List.length_cons]; omega
    have hul5 : us5.length ≤ 300 := by rw [tu5.length]; omega
    walk_at "gg"
    refine g_addL ef5 el5 (by show _ ≤ 16777216; omega) ?_
    walk_at "gg"
    rename_i l6 H6 n6 e6 s6
    have s46 : Same H H6 := s4.trans (s5.trans s6)
    walk_at "gg"
    refine g_ixW (h.w.same s46) hq_d fun a7 e7 => ?_
    walk_at "gg"
    rename_i a8 H8 n8 e8 s8 l9 H9 n9 e9 s9 l10 H10 n10 e10 s10
    have s69 := s8.trans s9
    have s610 := s69.trans s10
    refine ⟨_, _, l10, us ++ us5 ++ [.ref a8], rfl, s46.free (s8.free (s9.free n10)), e10, ?_, s46.trans s610⟩
    have k5 : Tk H5 H10 := Same.tk (s6.trans s610)
    rw [List.take_add_one, hq2, Option.toList_some, List.flatMap_append, List.flatMap_singleton, ← List.cons_append, ← List.append_assoc]
    exact Tps.append (Tps.append ((tu.mono (Same.tk s5)).mono k5) (tu5.mono k5)) (.one (.tup (s10 _ _ (s9 _ _ e8)) (.cons (.str _) (.one (.int _)))))
  · rintro σ H4 ⟨x4, x5, fl, us, rfl, hfl, ef, tu, s4⟩
    rw [hrl, List.take_length] at tu
    walk_at "gg"
    exact q fl us H4 hfl ef (by rw [Rows.opened_eq]; exact tu) s4
theorem pure_lbuilt {K : PySem.W.Frag} {w : World} {m : Nat} : PureOk 2 (spBuild (m + 1)) (t_law_built K w (spOpen m) (spBuild m)) 4 := by
  refine ⟨fun vs H Q E ⟨_, _, _, _, _, e, _⟩ => by rw [e]; rfl, ?_⟩
  rintro vs H Q E ⟨v, p, d, dom, ws, rfl, t, h, hm, q⟩
  show t_law_built K w _ _ _ [some v, some (.ref d), none, none] H
  unfold t_law_built
  rcases word_cases p with ⟨n, rfl⟩ | ⟨x, rfl⟩ | ⟨f, rfl⟩ | ⟨r, b, rfl⟩ | ⟨b, rfl⟩ | ⟨hw, hs⟩
  · obtain ⟨a, u1, u2, rfl, ea, t1, t2⟩ := id t.two
    rw [t1.str_inv, t2.int_inv] at ea
    walk_at "gg"
    rename_i a1 H1 n1 e1 s1 a2 H2 n2 e2 s2
    exact q a2 _ H2 (s1.free n2) e2 (.one (t.mono (Same.tk (s1.trans s2)))) (s1.trans s2)
  · obtain ⟨a, u1, u2, rfl, ea, t1, t2⟩ := id t.two
    rw [t1.str_inv, t2.str_inv] at ea
    walk_at "gg"
    refine g_ixW h.w h.n fun a3 e3 => ?_
    walk_at "gg"
    rename_i a2 H2 n2 e2 s2
    exact q a2 _ H2 n2 e2 (.one (.tup (s2 _ _ e3) (.cons (.str _) (.one (.int _))))) s2
  · obtain ⟨a, u1, u2, rfl, ea, t1, t2⟩ := id t.two
    rw [t1.str_inv, t2.str_inv] at ea
    walk_at "gg"
    rename_i a1 H1 n1 e1 s1 a2 H2 n2 e2 s2
    exact q a2 _ H2 (s1.free n2) e2 (.one (t.mono (Same.tk (s1.trans s2)))) (s1.trans s2)
  · obtain ⟨a, u1, u2, u3, rfl, ea, t1, t2, t3⟩ := id t.three
    rw [t1.str_inv] at ea
    walk_at "gg"
    rename_i a1 H1 n1 e1 s1
    walk_at "gg"
    have h1 : RowsPre H1 (.letp r b) d dom ws := ⟨h.g, h.z, h.n, h.w.same s1⟩
    refine ⟨_, r, b, d, dom, ws, rfl, t.mono (Same.tk s1), h1, hm, fun l us H2 nl el tu s2 => ?_⟩
    have ea2 := s2 _ _ (s1 _ _ ea)
    walk_at "gg"
    have hbk : b ∈ (Part.letp r b).kids := List.mem_append.mpr (.inr (by simp))
    have hbs := (Part.letp r b).sz_kids
    have hbz := sz_mem hbk
    have hbd2 : b.deep ≤ m := by have : (Part.letp r b).deep = 1 + max r.deep b.deep := rfl; omega
    have hz := h.z
    refine ⟨u3, b, d, dom, ws, rfl, t3.mono (Same.tk (s1.trans s2)), ⟨h.g.kids b hbk, by omega, h.n.2.2.2, h1.w.same s2⟩, hbd2, fun l3 us3 H3 nl3 el3 tu3 s3 => ?_⟩
    have l1 : us.length ≤ 1000 := by
      rw [tu.length]
      have := r.opn_len ws
      have : (Part.letp r b).size = 1 + (r.size + b.size) := rfl
      show (_ :: _ : List PyData).length ≤ _
      rw [List.length_cons]
      omega
    have l2 : us3.length ≤ 1000 := by rw [tu3.length]; have := b.bld_len ws; omega
    refine g_addL (s3 _ _ el) el3 (by show _ ≤ 16777216; omega) ?_
    walk_at "gg"
    rename_i a4 H4 n4 e4 s4
    exact q a4 _ H4 (s1.free (s2.free (s3.free n4))) e4 (Tps.append ((tu.mono (Same.tk (s3.trans s4)))) (tu3.mono (Same.tk s4))) (s1.trans (s2.trans (s3.trans s4)))
  · exact h.n.elim
  · obtain ⟨a, xs, rfl, ea, tx⟩ := id t.part
    have hwn : decide (p.word = "name") = false := decide_eq_false (not_name hw)
    have hwl : decide (p.word = "let") = false := decide_eq_false fun e => hw (by rw [e]; simp)
    walk_at "gg"
    refine g_F hwn ?_
    walk_at "gg"
    rename_i a1 H1 n1 e1 s1
    refine g_inX (r := false) e1 rfl ?_ ?_
    · have hx : p.word ∉ [("number" : Str), "fun"] := fun hx => hw (by
        simp only [List.mem_cons, List.not_mem_nil, or_false] at hx ⊢
        rcases hx with hx | hx
        · exact .inl hx
        · exact .inr (.inl hx))
      have := inV_str (k := p.word) [("number" : Str), "fun"]
      rw [decide_eq_false hx] at this
      exact this
    walk_at "gg"
    refine g_F hwl ?_
    walk_at "gg"
    rename_i fl H2 n2 e2 s2
    have s12 := s1.trans s2
    have ea2 := s12 _ _ ea
    walk_at "gg"
    refine g_seqT ?_
    walk_at "gg"
    have hal : p.args.length = p.kids.length := by rw [Part.args_subs hw, subs_kids hw hs, List.length_map]
    have hxl : xs.length = p.kids.length := by rw [tx.length, hal]
    have hcut : cutV (V.str p.word :: xs) (some 1) none = xs := cut_tail
    refine g_slT (.of ea2) ?_ ?_
    · rintro ⟨h1, _⟩
      rw [show (some (1 : Int)) = some ((1 : Nat) : Int) from rfl, HT.sIx_nat] at h1
      simp only [List.length_cons] at h1
      omega
    rw [hcut]
    walk_at "gg"
    rename_i kl H3 n3 ek s3
    have s13 := s12.trans s3
    have tk : Tps H3 xs (p.kids.map Part.data) := by
      have := tx.mono (Same.tk s13)
      rw [Part.args_subs hw, subs_kids hw hs] at this
      exact this
    have hfl : H fl = none := s1.free n2
    walk_at "gg"
    refine for_T (xs := xs) (fun i σ H' => ∃ (x4 : Option V) (fl : Addr) (us : List V), σ = [some (.ref a), some (.ref d), some (.ref fl), x4] ∧ H fl = none ∧ H' fl = some (.lst us) ∧ Tps H' us ((p.kids.take i).flatMap (Part.bld ws)) ∧ Same H3 H')
      (fun i σ H' ⟨_, _, _, _, _, _, _, s⟩ => s _ _ ek) ⟨none, _, [], rfl, hfl, s3 _ _ e2, .nil, .refl _⟩ ?_ ?_
    · clear hfl e2
      rintro i x σ H4 hx ⟨x4, fl, us, rfl, hfl, ef, tu, s4⟩
      obtain ⟨dd, hdd, tx4⟩ := (tk.mono (Same.tk s4)).get hx
      rw [List.getElem?_map] at hdd
      obtain ⟨p2, hp2, rfl⟩ := Option.map_eq_some_iff.mp hdd
      have hpm := List.mem_of_getElem? hp2
      walk_at "gg"
      have hd2 := p.mxd_kids
      have hd3 := mxd_mem hpm
      refine ⟨x, p2, d, dom, ws, rfl, tx4, h.kid hw hpm (s13.trans s4), by omega, fun l5 us5 H5 nl5 el5 tu5 s5 => ?_⟩
      have ef5 := s5 _ _ ef
      have hl1 := flat_bld_len ws (p.kids.take i)
      have hl2 := sz_take_le p.kids i
      have hl3 := p.sz_kids
      have hl4 := p2.bld_len ws
      have hl5 := sz_mem hpm
      have hz := h.z
      refine g_addL ef5 el5 (by rw [tu.length, tu5.length]; show _ ≤ 16777216; omega) ?_
      walk_at "gg"
      rename_i l6 H6 n6 e6 s6
      refine ⟨_, l6, us ++ us5, rfl, s13.free (s4.free (s5.free n6)), e6, ?_, s4.trans (s5.trans s6)⟩
      rw [List.take_add_one, hp2, Option.toList_some, List.flatMap_append, List.flatMap_singleton]
      exact Tps.append ((tu.mono (Same.tk s5)).mono (Same.tk s6)) (tu5.mono (Same.tk s6))
    · clear hfl e2
      rintro σ H4 ⟨x4, fl, us, rfl, hfl, ef, tu, s4⟩
      rw [hxl, List.take_length] at tu
      have ea4 := s4 _ _ (s3 _ _ ea2)
      walk_at "gg"
      rename_i a5 H5 n5 e5 s5 a6 H6 n6 e6 s6
      have hl1 := flat_bld_len ws p.kids
      have hl3 := p.sz_kids
      have hz := h.z
      refine g_addL (s6 _ _ (s5 _ _ ef)) e6 (by rw [tu.length]; simp only [List.length_singleton]; show _ ≤ 16777216; omega) ?_
      walk_at "gg"
      rename_i a7 H7 n7 e7 s7
      have s47 := s5.trans (s6.trans s7)
      refine q a7 _ H7 (s13.free (s4.free (s5.free (s6.free n7)))) e7 ?_ (s13.trans (s4.trans s47))
      rw [Part.bld_kids ws hw hs]
      exact Tps.append (tu.mono (Same.tk s47)) (.one (.tup (s7 _ _ (s6 _ _ e5)) (.one (.str _))))

/-! ### rows: a function's house -/
mutual
theorem Part.all_names : ∀ p : Part, p.all.flatMap (fun q => match q with | .letp r _ => r.names | _ => []) = p.rowNames
  | .num _ => rfl
  | .name _ => rfl
  | .fn _ => rfl
  | .one _ a => by
    show [] ++ a.all.flatMap _ = a.rowNames
    rw [List.nil_append, a.all_names]
  | .two _ a b => by
    show [] ++ (a.all ++ b.all).flatMap _ = a.rowNames ++ b.rowNames
    rw [List.nil_append, List.flatMap_append, a.all_names, b.all_names]
  | .whn a b c => by
    show [] ++ (a.all ++ (b.all ++ c.all)).flatMap _ = a.rowNames ++ (b.rowNames ++ c.rowNames)
    rw [List.nil_append, List.flatMap_append, List.flatMap_append, a.all_names, b.all_names, c.all_names]
  | .letp r a => by
    show r.names ++ (r.all ++ a.all).flatMap _ = r.names ++ (r.rowNames ++ a.rowNames)
    rw [List.flatMap_append, r.all_names, a.all_names]
  | .shut _ => rfl
theorem Rows.all_names : ∀ r : Rows, r.all.flatMap (fun q => match q with | .letp r _ => r.names | _ => []) = r.rowNames
  | .nil => rfl
  | .cons x a r => by
    show (a.all ++ r.all).flatMap _ = a.rowNames ++ r.rowNames
    rw [List.flatMap_append, a.all_names, r.all_names]
end
/-- the names that a part binds itself -/
def Part.binds : Part → List Str
  | .letp r _ => r.names
  | _ => []
theorem Part.binds_all (p : Part) : p.all.flatMap Part.binds = p.rowNames := by
  have e : Part.binds = fun q => match q with | .letp r _ => r.names | _ => [] := by
    funext q
    cases q <;> rfl
  rw [e]
  exact p.all_names
/-- the step by which each name of a body comes -/
def waysOf (ts : List Str) (p : Part) (x : Str) : Way := if x ∈ ts then ("thing", ts.idxOf x) else ("local", p.rowNames.idxOf x)
/-- what is known of a function, by its number: its body, its things -/
structure FnAt (P : Prog) (f : Str) (j : Nat) (p : Part) (ts : List Str) : Prop where
  num : NumAt P f j
  body : P.bodies[j]? = some p
  things : ThingsAt P f ts
  fine : p.fine P.names ts
  nd : ts.Nodup
  few : ts.length ≤ 4
theorem not_name_empty {P : Prog} (h : P.fine) : ("" : Str) ∉ P.names := fun hm => by
  obtain ⟨fn, hf, e⟩ := List.mem_map.mp hm
  have := (h.fs fn hf).nm.1
  rw [e] at this
  exact absurd this (by decide)
theorem Prog.fine.fnAt {P : Prog} (h : P.fine) {f : Str} (hf : f ∈ P.names ∨ f = "") : ∃ j p ts, FnAt P f j p ts := by
  rcases hf with hf | rfl
  · obtain ⟨j, hj⟩ := List.mem_iff_getElem?.mp hf
    have hj' := hj
    rw [show P.names = P.fs.map (·.name) from rfl, List.getElem?_map] at hj'
    obtain ⟨fn, hfn, e⟩ := Option.map_eq_some_iff.mp hj'
    have hm := List.mem_of_getElem? hfn
    have hF := h.fs fn hm
    refine ⟨j, fn.body, fn.things, .inl hj, ?_, .inl ⟨j, fn, hfn, e, rfl⟩, hF.body, hF.nd, hF.few⟩
    show (P.fs.map (·.body) ++ [P.asked])[j]? = _
    have hl := (List.getElem?_eq_some_iff.mp hfn).1
    rw [List.getElem?_append_left (by rw [List.length_map]; exact hl), List.getElem?_map, hfn]
    rfl
  · have hn := not_name_empty h
    refine ⟨P.names.length, P.asked, [], .inr ⟨hn, rfl⟩, ?_, .inr ⟨hn, rfl⟩, h.asked, List.nodup_nil, by decide⟩
    show (P.fs.map (·.body) ++ [P.asked])[(P.fs.map (·.name)).length]? = _
    rw [List.length_map, List.getElem?_append_right (by rw [List.length_map]; exact Nat.le_refl _), List.length_map, Nat.sub_self]
    rfl
mutual
theorem Part.ok_inD {fs : List Str} {dom : List Str} : ∀ {p : Part} {sc : List Str}, p.ok fs sc → (∀ x ∈ sc, x ∈ dom) → (∀ x ∈ p.rowNames, x ∈ dom) → p.inD dom
  | .num n, _, h, _, _ => h
  | .name x, _, h, hs, _ => hs x h.1
  | .fn f, _, h, _, _ => h.2
  | .one _ a, _, h, hs, hr => Part.ok_inD (p := a) h hs hr
  | .two _ a b, _, h, hs, hr => ⟨Part.ok_inD (p := a) h.1 hs fun x hx => hr x (List.mem_append.mpr (.inl hx)), Part.ok_inD (p := b) h.2 hs fun x hx => hr x (List.mem_append.mpr (.inr hx))⟩
  | .whn a b c, _, h, hs, hr => ⟨Part.ok_inD (p := a) h.1 hs fun x hx => hr x (List.mem_append.mpr (.inl hx)), Part.ok_inD (p := b) h.2.1 hs fun x hx => hr x (List.mem_append.mpr (.inr (List.mem_append.mpr (.inl hx)))),
      Part.ok_inD (p := c) h.2.2 hs fun x hx => hr x (List.mem_append.mpr (.inr (List.mem_append.mpr (.inr hx))))⟩
  | .letp r a, sc, h, hs, hr => by
    have hs' : ∀ x ∈ sc ++ r.names, x ∈ dom := fun x hx => (List.mem_append.mp hx).elim (hs x) fun h => hr x (List.mem_append.mpr (.inl h))
    exact ⟨h.1, h.2.1, Rows.ok_inD (r := r) h.2.2.2.1 hs' (fun x hx => hr x (List.mem_append.mpr (.inr (List.mem_append.mpr (.inl hx))))) (fun x hx => hr x (List.mem_append.mpr (.inl hx))), Part.ok_inD (p := a) h.2.2.2.2 hs' fun x hx => hr x (List.mem_append.mpr (.inr (List.mem_append.mpr (.inr hx))))⟩
  | .shut _, _, h, _, _ => h.elim
theorem Rows.ok_inD {fs : List Str} {dom : List Str} : ∀ {r : Rows} {sc : List Str}, r.ok fs sc → (∀ x ∈ sc, x ∈ dom) → (∀ x ∈ r.rowNames, x ∈ dom) → (∀ x ∈ r.names, x ∈ dom) → r.inD dom
  | .nil, _, _, _, _, _ => trivial
  | .cons x a r, _, h, hs, hr, hn => ⟨hn x (by show x ∈ x :: r.names; simp), Part.ok_inD (p := a) h.1 hs fun y hy => hr y (List.mem_append.mpr (.inl hy)), Rows.ok_inD (r := r) h.2 hs (fun y hy => hr y (List.mem_append.mpr (.inr hy))) fun y hy => hn y (List.mem_cons_of_mem _ hy)⟩
end
section
variable {P : Prog} {f : Str} {j : Nat} {p : Part} {ts : List Str}
def FnAt.dom (_ : FnAt P f j p ts) : List Str := ts ++ p.rowNames
theorem FnAt.inD (h : FnAt P f j p ts) : p.inD h.dom := Part.ok_inD h.fine.ok (fun x hx => List.mem_append.mpr (.inl hx)) fun x hx => List.mem_append.mpr (.inr hx)
theorem FnAt.pre (h : FnAt P f j p ts) {H : Hp} {d : Addr} (w : WaysAt H d h.dom (waysOf ts p)) : RowsPre H p d h.dom (waysOf ts p) := ⟨h.fine.good, h.fine.size, h.inD, w⟩
theorem ways_thing {i : Nat} {x : Str} (nd : ts.Nodup) (hx : ts[i]? = some x) : waysOf ts p x = (("thing" : Str), i) := by
  have hm := List.mem_of_getElem? hx
  unfold waysOf
  rw [if_pos hm]
  obtain ⟨hl, he⟩ := List.getElem?_eq_some_iff.mp hx
  rw [← he, List.Nodup.idxOf_getElem nd]
theorem ways_local {i : Nat} {x : Str} (hn : x ∉ ts) (nd : p.rowNames.Nodup) (hx : p.rowNames[i]? = some x) : waysOf ts p x = (("local" : Str), i) := by
  unfold waysOf
  rw [if_neg hn]
  obtain ⟨hl, he⟩ := List.getElem?_eq_some_iff.mp hx
  rw [← he, List.Nodup.idxOf_getElem nd]
theorem FnAt.local' (h : FnAt P f j p ts) {i : Nat} {x : Str} (hx : p.rowNames[i]? = some x) : waysOf ts p x = (("local" : Str), i) :=
  ways_local (h.fine.un x (List.mem_of_getElem? hx)).2 h.fine.nd hx
end
mutual
theorem Part.rn_len : ∀ p : Part, p.rowNames.length + 1 ≤ p.size
  | .num _ => Nat.le_refl _
  | .name _ => Nat.le_refl _
  | .fn _ => Nat.le_refl _
  | .one _ a => by have := a.rn_len; show a.rowNames.length + 1 ≤ 1 + a.size; omega
  | .two _ a b => by
    have := a.rn_len
    have := b.rn_len
    show (a.rowNames ++ b.rowNames).length + 1 ≤ 1 + (a.size + b.size)
    rw [List.length_append]
    omega
  | .whn a b c => by
    have := a.rn_len
    have := b.rn_len
    have := c.rn_len
    show (a.rowNames ++ (b.rowNames ++ c.rowNames)).length + 1 ≤ 1 + (a.size + (b.size + c.size))
    rw [List.length_append, List.length_append]
    omega
  | .letp r a => by
    have := r.rn_len
    have := a.rn_len
    show (r.names ++ (r.rowNames ++ a.rowNames)).length + 1 ≤ 1 + (r.size + a.size)
    rw [List.length_append, List.length_append]
    omega
  | .shut _ => Nat.le_refl _
theorem Rows.rn_len : ∀ r : Rows, r.names.length + r.rowNames.length ≤ r.size
  | .nil => Nat.zero_le _
  | .cons x a r => by
    have := a.rn_len
    have := r.rn_len
    show (x :: r.names).length + (a.rowNames ++ r.rowNames).length ≤ a.size + r.size
    rw [List.length_append, List.length_cons]
    omega
end
/-! ### the dict of ways, filled -/
/-- the dict holds the ways of these names -/
def WaysB (H : Hp) (d : Addr) (dom : List Str) (ws : Str → Way) : Prop := ∃ kvs : List (Key × V), H d = some (.dK kvs) ∧ kvs.length ≤ dom.length ∧ ∀ x ∈ dom, ∃ u a, valV kvs (Sum.inr x) = some u ∧ u = .ref a ∧ H a = some (.tup [.str (ws x).1, .int (ws x).2])
section
variable {H H' H1 : Hp} {d a : Addr} {dom : List Str} {ws : Str → Way} {x : Str}
theorem WaysB.at (h : WaysB H d dom ws) : WaysAt H d dom ws := by
  obtain ⟨kvs, e, _, f⟩ := h
  exact ⟨kvs, e, f⟩
theorem WaysB.same (h : WaysB H d dom ws) (s : Same H H') : WaysB H' d dom ws := by
  obtain ⟨kvs, e, l, f⟩ := h
  refine ⟨kvs, s _ _ e, l, fun x hx => ?_⟩
  obtain ⟨u, a, h1, h2, h3⟩ := f x hx
  exact ⟨u, a, h1, h2, s _ _ h3⟩
theorem WaysB.nil (e : H d = some (.dK [])) : WaysB H d [] ws := ⟨[], e, Nat.le_refl _, fun x hx => absurd hx (by simp)⟩
/-- another list changes -/
theorem WaysB.chg {b : Addr} {ys : List V} (h : WaysB H d dom ws) (c : Chg b H H') (hb : H b = some (.lst ys)) : WaysB H' d dom ws := by
  obtain ⟨kvs, e, l, f⟩ := h
  refine ⟨kvs, c _ _ (fun z => by rw [z, hb] at e; cases e) e, l, fun x hx => ?_⟩
  obtain ⟨u, a, h1, h2, h3⟩ := f x hx
  exact ⟨u, a, h1, h2, c _ _ (fun z => by rw [z, hb] at h3; cases h3) h3⟩
/-- d[x] = a, one name more -/
theorem g_setW {R : Hp → Prop} (h : WaysB H d dom ws) (few : dom.length ≤ 1000) (ha : H a = some (.tup [.str (ws x).1, .int (ws x).2])) (q : ∀ H', WaysB H' d (dom ++ [x]) ws → Chg d H H' → Tk H H' → R H') : rSetG (.ref d) (.str x) (.ref a) H R := by
  obtain ⟨kvs, e, l, f⟩ := h
  refine g_setK e (k := .inr x) rfl (by show _ < 16777216; omega) fun H' e' c' => ?_
  have k' : Tk H H' := c'.tk fun xs z => by rw [e] at z; cases z
  refine q H' ⟨_, e', ?_, fun y hy => ?_⟩ c' k'
  · have := length_putK kvs (Sum.inr x : Key) (V.ref a)
    rw [List.length_append, List.length_singleton]
    omega
  · rw [valV_put]
    by_cases hyx : y = x
    · subst hyx
      exact ⟨_, a, if_pos rfl, rfl, k' _ _ ha⟩
    · have hy' : y ∈ dom := by
        rcases List.mem_append.mp hy with h | h
        · exact h
        · exact absurd (List.mem_singleton.mp h) hyx
      obtain ⟨u, b, h1, h2, h3⟩ := f y hy'
      exact ⟨u, b, by rw [if_neg (fun z => hyx (Sum.inr.inj z))]; exact h1, h2, k' _ _ h3⟩
end
/-! ### the program's house -/
def spBodyOfR : Sp := fun vs H Q _ => ∃ (v : V) (P : Prog) (f : Str) (j : Nat) (p : Part) (ts : List Str), vs = [v, .str f] ∧ Tp H v P.data ∧ P.fine ∧ FnAt P f j p ts ∧ ∀ (v' : V) (H' : Hp), Tp H' v' p.data → Same H H' → Q v' H'
def spBodiesR : Sp := fun vs H Q _ => ∃ (v : V) (P : Prog), vs = [v] ∧ Tp H v P.data ∧ P.fine ∧ ∀ (l : Addr) (us : List V) (H' : Hp), H' l = some (.lst us) → Tps H' us (P.bodies.map Part.data) → Same H H' → Q (.ref l) H'
theorem Prog.fn_atR {H : Hp} {P : Prog} {vs : List V} {i : Nat} {x : V} (tfs : Tps H vs (P.fs.map Fn1.data)) (hx : vs[i]? = some x) : ∃ f, P.fs[i]? = some f ∧ Tp H x f.data := by
  obtain ⟨d, hd, td⟩ := tfs.get hx
  rw [List.getElem?_map] at hd
  obtain ⟨f, hf, rfl⟩ := Option.map_eq_some_iff.mp hd
  exact ⟨f, hf, td⟩
theorem pure_bodiesR {K : PySem.W.Frag} {w : World} : PureOk 1 spBodiesR (t_bodies K w) 4 := by
  refine ⟨fun vs H Q E ⟨_, _, e, _⟩ => by rw [e]; rfl, ?_⟩
  rintro vs H Q E ⟨v, P, rfl, tP, hfine, q⟩
  show t_bodies K w _ [some v, none, none, none] H
  unfold t_bodies
  obtain ⟨pa, fa, u, vs, rfl, epa, efa, tfs, tas⟩ := tP.prog
  have hvl : vs.length = P.fs.length := by rw [tfs.length, List.length_map]
  have hfew := hfine.few
  walk_at "gg"
  refine g_seqT ?_
  walk_at "gg"
  refine lc_mapT efa (by omega) (fun i y H' => ∃ f, P.fs[i]? = some f ∧ Tp H' y f.body.data) (fun i y H H' k ⟨f, h1, h2⟩ => ⟨f, h1, h2.mono k⟩) ?_ ?_
  · intro i x H' Nx hx s hN
    obtain ⟨f, hf, td⟩ := Prog.fn_atR tfs hx
    obtain ⟨a3, b3, u3, rfl, ea3, eb3, tu3⟩ := td.fn1
    walk_at "gg"
    refine ⟨rfl, ?_⟩
    walk_at "gg"
    exact hN _ _ (.refl _) ⟨f, hf, by walk_at "tp"⟩
  · intro D ys H2 nD eD hys hF s2
    walk_at "gg"
    refine q _ _ _ (by walk_at "at") ?_ (by walk_at "same")
    show Tps _ _ ((P.fs.map (·.body) ++ [P.asked]).map Part.data)
    rw [List.map_append]
    refine Tps.append (Tps.mono (H := H2) (by walk_at "tk") (Tps.of_get (by rw [hys, hvl, List.length_map, List.length_map]) fun i y hy => ?_)) (.one (by walk_at "tp"))
    obtain ⟨f, hf, td⟩ := hF i y hy
    exact ⟨_, by rw [List.map_map, List.getElem?_map, hf]; rfl, td⟩
theorem pure_bodyofR {K : PySem.W.Frag} {w : World} : PureOk 2 spBodyOfR (t_body_of K w spBodiesR spNum) 2 := by
  refine ⟨fun vs H Q E ⟨_, _, _, _, _, _, e, _⟩ => by rw [e]; rfl, ?_⟩
  rintro vs H Q E ⟨v, P, f, j, p, ts, rfl, tP, hfine, hA, q⟩
  show t_body_of K w _ _ _ [some v, some (.str f)] H
  unfold t_body_of
  walk_at "gg"
  refine ⟨v, P, rfl, tP, hfine, fun l us H1 e1 t1 s1 => ?_⟩
  walk_at "gg"
  refine ⟨v, P, f, j, rfl, by walk_at "tp", hfine, hA.num, fun H2 s2 => ?_⟩
  obtain ⟨v', hv', tv'⟩ := t1.at (i := j) (d := p.data) (by rw [List.getElem?_map, hA.body]; rfl)
  refine g_ixL (.of (by walk_at "at")) (atI_of (by omega) (by simpa using hv')) ?_
  exact q v' H2 (by walk_at "tp") (by walk_at "same")
def spHouse : Sp := fun vs H Q _ => ∃ (v : V) (P : Prog) (f : Str) (j : Nat) (p : Part) (ts : List Str), vs = [v, .str f] ∧ Tp H v P.data ∧ P.fine ∧ FnAt P f j p ts ∧
  ∀ (a d : Addr) (v' : V) (H' : Hp), H' a = some (.tup [v', .ref d]) → Tp H' v' p.data → WaysAt H' d (ts ++ p.rowNames) (waysOf ts p) → Same H H' → Q (.ref a) H'
theorem letTp {H : Hp} {v : V} {r : Rows} {b : Part} (t : Tp H v (Part.letp r b).data) : ∃ a ra rs u, v = .ref a ∧ H a = some (.tup [.str "let", .ref ra, u]) ∧ H ra = some (.tup rs) ∧ Tps H rs (r.list.map rowD) ∧ Tp H u b.data := by
  obtain ⟨a, u1, u2, u3, rfl, ea, t1, t2, t3⟩ := t.three
  rw [t1.str_inv] at ea
  obtain ⟨ra, rs, rfl, er, tr⟩ := t2.tup_inv
  rw [Rows.list_datas] at tr
  exact ⟨a, ra, rs, u3, rfl, ea, er, tr, t3⟩
theorem Part.not_let {p : Part} (h : ∀ r a, p ≠ .letp r a) : p.word ≠ "let" ∧ p.binds = [] := by
  cases p with
  | letp r a => exact absurd rfl (h r a)
  | one k a => exact ⟨show ¬ k.word = "let" from by cases k <;> decide, rfl⟩
  | two k a b => exact ⟨show ¬ k.word = "let" from by cases k <;> decide, rfl⟩
  | num n => exact ⟨show ¬ ("number" : Str) = "let" from by decide, rfl⟩
  | name n => exact ⟨show ¬ ("name" : Str) = "let" from by decide, rfl⟩
  | fn n => exact ⟨show ¬ ("fun" : Str) = "let" from by decide, rfl⟩
  | whn a b c => exact ⟨show ¬ ("when" : Str) = "let" from by decide, rfl⟩
  | shut a => exact ⟨show ¬ ("shut" : Str) = "let" from by decide, rfl⟩
theorem binds_take {ps : List Part} {i : Nat} {q : Part} (h : ps[i]? = some q) : (ps.take (i + 1)).flatMap Part.binds = (ps.take i).flatMap Part.binds ++ q.binds := by
  rw [List.take_add_one, h, Option.toList_some, List.flatMap_append, List.flatMap_singleton]
/-- a name's place among all -/
theorem rn_at {p : Part} {ps : List Part} {i k : Nat} {q : Part} {x : Str} (e : p.rowNames = ps.flatMap Part.binds) (h : ps[i]? = some q) (hx : q.binds[k]? = some x) : p.rowNames[((ps.take i).flatMap Part.binds).length + k]? = some x := by
  have h1 : ps = ps.take i ++ q :: ps.drop (i + 1) := by
    obtain ⟨hl, he⟩ := List.getElem?_eq_some_iff.mp h
    rw [← he, List.getElem_cons_drop hl]
    exact (List.take_append_drop i ps).symm
  have h2 : p.rowNames = (ps.take i).flatMap Part.binds ++ (q.binds ++ (ps.drop (i + 1)).flatMap Part.binds) := by
    rw [e]
    conv => lhs; rw [h1]
    rw [List.flatMap_append, List.flatMap_cons]
  rw [h2, List.getElem?_append_right (Nat.le_add_right _ _), Nat.add_sub_cancel_left, List.getElem?_append_left (List.getElem?_eq_some_iff.mp hx).1]
  exact hx
theorem pure_house {K : PySem.W.Frag} {w : World} : PureOk 2 spHouse (t_house_of K w spBodyOfR spThings spOrder) 9 := by
  refine ⟨fun vs H Q E ⟨_, _, _, _, _, _, e, _⟩ => by rw [e]; rfl, ?_⟩
  rintro vs H Q E ⟨v, P, f, j, p, ts, rfl, tP, hfine, hA, q⟩
  show t_house_of K w _ _ _ _ [some v, some (.str f), none, none, none, none, none, none, none] H
  unfold t_house_of
  walk_at "gg"
  refine ⟨v, P, f, j, p, ts, rfl, tP, hfine, hA, fun v1 H1 t1 s1 => ?_⟩
  walk_at "gg"
  rename_i d H2 n2 e2 s2
  have tP2 := tP.mono (Same.tk (s1.trans s2))
  walk_at "gg"
  refine g_enumT ?_
  walk_at "gg"
  refine ⟨v, P, f, ts, rfl, tP2, hfine, hA.things, fun a3 H3 e3 s3 => ?_⟩
  walk_at "gg"
  have t13 := t1.mono (Same.tk (s2.trans s3))
  have hd0 : H d = none := s1.free n2
  have s23 : Same H1 H3 := s2.trans s3
  have tlen : (ts.map V.str).length = ts.length := List.length_map _
  refine ⟨a3, _, rfl, .of e3, ?_⟩
  refine for_any ts.length (fun i σ H' => ∃ (x4 x5 : Option V), σ = [some v, some (.str f), some v1, some (.ref d), x4, x5, none, none, none] ∧ WaysB H' d (ts.take i) (waysOf ts p) ∧ H' a3 = some (.tup (ts.map V.str)) ∧ Same H H' ∧ Tk H3 H')
    ⟨none, none, rfl, .nil (s3 _ _ e2), e3, s1.trans s23, .refl _⟩
    (fun i σ H' hi ⟨_, _, _, _, e, _⟩ => ⟨_, _, .of e, List.getElem?_eq_getElem (by rw [tlen]; exact hi)⟩) (fun σ H' ⟨_, _, _, _, e, _⟩ => ⟨_, .of e, tlen⟩) ?_ ?_
  · rintro i x σ H4 H5 hi ⟨x4, x5, rfl, w4, e4, s4, k4⟩ ⟨T, y, rfl, nT, rfl, hy⟩
    have hy' := hy _ (.of e4)
    rw [List.getElem?_map] at hy'
    obtain ⟨nm, hnm, rfl⟩ := Option.map_eq_some_iff.mp hy'
    have eT : upd H4 T (.tup [.int (i : Nat), .str nm]) T = some (.tup [.int (i : Nat), .str nm]) := upd_same
    have sT : Same H4 (upd H4 T (.tup [.int (i : Nat), .str nm])) := same_upd nT
    generalize upd H4 T (.tup [.int (i : Nat), .str nm]) = H6 at eT sT
    have w6 := w4.same sT
    have e6 := sT _ _ e4
    refine g_un2 eT ?_
    walk_at "gg"
    rename_i a7 H7 n7 e7 s7
    walk_at "gg"
    have hlt := hA.few
    refine g_setW (w6.same s7) (by rw [List.length_take]; omega) (a := a7) (by rw [ways_thing hA.nd hnm]; exact e7) fun H8 w8 c8 k8 => ?_
    walk_at "gg"
    refine ⟨_, _, rfl, ?_, k8 _ _ (s7 _ _ e6), fun b o e => c8 b o (ne_of_none e hd0) (s7 b o (sT b o (s4 b o e))), ((k4.trans (Same.tk sT)).trans (Same.tk s7)).trans k8⟩
    rw [List.take_add_one, hnm]
    exact w8
  rintro σ H4 ⟨x4, x5, rfl, w4, e4, s4, k4⟩
  rw [List.take_length] at w4
  have t14 := t13.mono k4
  clear e4 e3 e2 n2 s2 s3 s23
  walk_at "gg"
  refine g_seqL ?_
  walk_at "gg"
  refine ⟨v1, p, rfl, t14, hA.fine.good, hA.fine.size, fun ol us H5 nol eol tu s5 => ?_⟩
  walk_at "gg"
  have hul : us.length = p.all.length := by rw [tu.length, List.length_map]
  have hrn := p.binds_all
  have hno : ol ≠ d := fun e => by
    obtain ⟨kvs, ed, _⟩ := w4
    rw [e, ed] at nol
    cases nol
  have hrl := p.rn_len
  have hz := hA.fine.size
  refine for_L (xs := us) (fun i σ H' => ∃ (x4 x5 x7 x8 : Option V), σ = [some v, some (.str f), some v1, some (.ref d), x4, x5, some (.int ((p.all.take i).flatMap Part.binds).length), x7, x8] ∧ WaysB H' d (ts ++ (p.all.take i).flatMap Part.binds) (waysOf ts p) ∧
      H' ol = some (.lst us) ∧ Same H H' ∧ Tk H5 H') (fun i σ H' ⟨_, _, _, _, _, _, e, _⟩ => e) ⟨_, _, none, none, rfl, by rw [List.take_zero, List.flatMap_nil, List.append_nil]; exact w4.same s5, eol, s4.trans s5, .refl _⟩ ?_ ?_
  · rintro i x σ H6 hx ⟨x4, x5, x7, x8, rfl, w6, e6, s6, k6⟩
    obtain ⟨dd, hdd, tx⟩ := (tu.mono k6).get hx
    rw [List.getElem?_map] at hdd
    obtain ⟨q2, hq2, rfl⟩ := Option.map_eq_some_iff.mp hdd
    by_cases hlet : ∃ r b, q2 = .letp r b
    · obtain ⟨r, b, rfl⟩ := hlet
      obtain ⟨a, ra, rs, u, rfl, ea, er, tr, tb⟩ := letTp tx
      have hrl2 : rs.length = r.list.length := by rw [tr.length, List.length_map]
      walk_at "gg"
      refine g_seqT ?_
      walk_at "gg"
      have hbt := binds_take hq2
      have hbl : (Part.letp r b).binds = r.names := rfl
      have htl : ((p.all.take i).flatMap Part.binds).length ≤ p.rowNames.length := by
        rw [← hrn]
        have := List.take_append_drop i p.all
        have h2 : p.all.flatMap Part.binds = (p.all.take i).flatMap Part.binds ++ (p.all.drop i).flatMap Part.binds := by rw [← List.flatMap_append, this]
        rw [h2, List.length_append]
        omega
      refine for_T (xs := rs) (fun k σ H' => ∃ (x5 x8 : Option V), σ = [some v, some (.str f), some v1, some (.ref d), x4, x5, some (.int (((p.all.take i).flatMap Part.binds).length + k : Nat)), some (.ref a), x8] ∧ WaysB H' d (ts ++ (p.all.take i).flatMap Part.binds ++ r.names.take k) (waysOf ts p) ∧
          H' ol = some (.lst us) ∧ Same H H' ∧ Tk H6 H') (fun k σ H' ⟨_, _, _, _, _, _, k'⟩ => k' _ _ er) ⟨_, _, rfl, by rw [List.take_zero, List.append_nil]; exact w6, e6, s6, .refl _⟩ ?_ ?_
      · rintro k y σ H7 hy ⟨x5, x8, rfl, w7, e7, s7, k7⟩
        obtain ⟨dd, hdd, ty⟩ := (tr.mono k7).get hy
        rw [List.getElem?_map] at hdd
        obtain ⟨q3, hq3, rfl⟩ := Option.map_eq_some_iff.mp hdd
        obtain ⟨c3, u3, rfl, ec3, tu3⟩ := rowD_inv ty
        have hnk : r.names[k]? = some q3.1 := by rw [Rows.list_names, List.getElem?_map, hq3]; rfl
        have hkl := (List.getElem?_eq_some_iff.mp hnk).1
        walk_at "gg"
        rename_i a8 H8 n8 e8 s8
        walk_at "gg"
        have hway := hA.local' (rn_at hrn.symm hq2 (k := k) (x := q3.1) hnk)
        have hkr : k ≤ p.rowNames.length := by
          have := (List.getElem?_eq_some_iff.mp (rn_at hrn.symm hq2 (k := k) (x := q3.1) hnk)).1
          omega
        have hlt := hA.few
        refine g_setW (w7.same s8) (by rw [List.length_append, List.length_append, List.length_take]; omega) (a := a8) (x := q3.1) (by rw [hway]; exact e8) fun H9 w9 c9 k9 => ?_
        walk_at "gg"
        refine ⟨_, _, rfl, ?_, c9 _ _ hno (s8 _ _ e7), fun b o e => c9 b o (ne_of_none e hd0) (s8 b o (s7 b o e)), (k7.trans (Same.tk s8)).trans k9⟩
        rw [List.take_add_one, hnk, Option.toList_some, ← List.append_assoc]
        exact w9
      · rintro σ H7 ⟨x5, x8, rfl, w7, e7, s7, k7⟩
        have hnl : r.names.length = rs.length := by rw [hrl2, Rows.list_names, List.length_map]
        rw [← hnl, List.take_length] at w7
        refine ⟨x4, x5, some (.ref a), x8, ?_, ?_, e7, s7, k6.trans k7⟩
        · rw [hbt, hbl, List.length_append, hnl]
        · rw [hbt, hbl, ← List.append_assoc]
          exact w7
    · obtain ⟨h1, h2⟩ := Part.not_let (p := q2) fun r a e => hlet ⟨r, a, e⟩
      obtain ⟨a, xs, rfl, ea, txs⟩ := id tx.part
      walk_at "gg"
      refine g_F (decide_eq_false h1) ?_
      walk_at "gg"
      have hbt := binds_take hq2
      rw [h2, List.append_nil] at hbt
      exact ⟨x4, x5, some (.ref a), x8, by rw [hbt], by rw [hbt]; exact w6, e6, s6, k6⟩
  · rintro σ H6 ⟨x4, x5, x7, x8, rfl, w6, e6, s6, k6⟩
    rw [hul, List.take_length, hrn] at w6
    walk_at "gg"
    rename_i a7 H7 n7 e7 s7
    exact q a7 d v1 H7 e7 ((t14.mono (Same.tk s5)).mono (k6.trans (Same.tk s7))) (w6.at.same s7) (s6.trans s7)

/-! ### what may be shown: data of so deep, of so many signs -/
structure ShowOk (D N : Nat) (d : PyData) : Prop where
  sh : d.showable = true
  nd : d.hasDict = false
  sl : d.leavesShort 64 = true
  cl : d.canLay0 = true
  dp : d.depth ≤ D
  bk : d.bulk ≤ N
structure ShowAll (D N : Nat) (ds : List PyData) : Prop where
  sh : PyData.showableAll ds = true
  nd : PyData.hasDictAll ds = false
  sl : PyData.leavesShortAll 64 ds = true
  cl : PyData.canLayAll0 ds = true
  dp : PyData.depthAll ds ≤ D
  bk : PyData.bulkAll ds ≤ N
theorem ShowAll.nil {D N : Nat} : ShowAll D N [] := ⟨rfl, rfl, rfl, rfl, Nat.zero_le _, Nat.zero_le _⟩
theorem ShowAll.cons {D n m : Nat} {d : PyData} {ds : List PyData} (h : ShowOk D n d) (t : ShowAll D m ds) : ShowAll D (n + 1 + m) (d :: ds) :=
  ⟨by rw [PyData.showableAll, h.sh, t.sh]; rfl, by rw [PyData.hasDictAll, h.nd, t.nd]; rfl, by rw [PyData.leavesShortAll, h.sl, t.sl]; rfl, by rw [PyData.canLayAll0, h.cl, t.cl]; rfl,
    by have := h.dp; have := t.dp; rw [PyData.depthAll]; omega, by have := h.bk; have := t.bk; rw [PyData.bulkAll]; omega⟩
theorem ShowAll.mono {D D' N N' : Nat} {ds : List PyData} (h : ShowAll D N ds) (hD : D ≤ D') (hN : N ≤ N') : ShowAll D' N' ds := ⟨h.sh, h.nd, h.sl, h.cl, Nat.le_trans h.dp hD, Nat.le_trans h.bk hN⟩
theorem ShowOk.mono {D D' N N' : Nat} {d : PyData} (h : ShowOk D N d) (hD : D ≤ D') (hN : N ≤ N') : ShowOk D' N' d := ⟨h.sh, h.nd, h.sl, h.cl, Nat.le_trans h.dp hD, Nat.le_trans h.bk hN⟩
theorem ShowAll.app {D n m : Nat} : ∀ {a b : List PyData}, ShowAll D n a → ShowAll D m b → ShowAll D (n + m) (a ++ b)
  | [], b, _, t => t.mono (Nat.le_refl _) (Nat.le_add_left _ _)
  | d :: a, b, h, t => by
    have hs := h.sh
    have hn := h.nd
    have hl := h.sl
    have hc := h.cl
    have hd := h.dp
    have hb := h.bk
    rw [PyData.showableAll, Bool.and_eq_true] at hs
    rw [PyData.hasDictAll, Bool.or_eq_false_iff] at hn
    rw [PyData.leavesShortAll, Bool.and_eq_true] at hl
    rw [PyData.canLayAll0, Bool.and_eq_true] at hc
    rw [PyData.depthAll] at hd
    rw [PyData.bulkAll] at hb
    have h0 : ShowOk D d.bulk d := ⟨hs.1, hn.1, hl.1, hc.1, by omega, Nat.le_refl _⟩
    have h1 : ShowAll D (n - (d.bulk + 1)) a := ⟨hs.2, hn.2, hl.2, hc.2, by omega, by omega⟩
    exact (ShowAll.cons h0 (ShowAll.app h1 t)).mono (Nat.le_refl _) (by omega)
theorem ShowOk.tup {D N : Nat} {ds : List PyData} (h : ShowAll D N ds) : ShowOk (D + 1) N (.tuple ds) :=
  ⟨by rw [PyData.showable]; exact h.sh, by rw [PyData.hasDict]; exact h.nd, by rw [PyData.leavesShort]; exact h.sl, by rw [PyData.canLay0]; exact h.cl, by have := h.dp; rw [PyData.depth]; omega, by rw [PyData.bulk]; exact h.bk⟩
theorem ShowOk.lst {D N : Nat} {ds : List PyData} (h : ShowAll D N ds) : ShowOk (D + 1) N (.list ds) :=
  ⟨by rw [PyData.showable]; exact h.sh, by rw [PyData.hasDict]; exact h.nd, by rw [PyData.leavesShort]; exact h.sl, by rw [PyData.canLay0]; exact h.cl, by have := h.dp; rw [PyData.depth]; omega, by rw [PyData.bulk]; exact h.bk⟩
theorem ShowOk.num {n : Int} (h : n.natAbs < 10 ^ 60) : ShowOk 0 0 (.int n) :=
  ⟨by rw [PyData.showable]; exact decide_eq_true (log_small h), by rw [PyData.hasDict], by
    rw [PyData.leavesShort]
    refine decide_eq_true ?_
    have := numS_len h
    have e : (PyData.int n).shown = numS n := by rw [PyData.shown]; rfl
    rw [e]
    omega, by rw [PyData.canLay0], by rw [PyData.depth]; exact Nat.le_refl _, by rw [PyData.bulk]; exact Nat.le_refl _⟩
theorem ShowOk.nat {n : Nat} (h : n < 10 ^ 60) : ShowOk 0 0 (.int (n : Int)) := ShowOk.num h
theorem ShowOk.bl {b : Bool} : ShowOk 0 0 (.bool b) := ⟨by rw [PyData.showable], by rw [PyData.hasDict], by rw [PyData.leavesShort], by rw [PyData.canLay0], by rw [PyData.depth]; exact Nat.le_refl _, by rw [PyData.bulk]; exact Nat.le_refl _⟩
theorem ShowOk.non : ShowOk 0 0 .none := ⟨by rw [PyData.showable], by rw [PyData.hasDict], by rw [PyData.leavesShort], by rw [PyData.canLay0], by rw [PyData.depth]; exact Nat.le_refl _, by rw [PyData.bulk]; exact Nat.le_refl _⟩
theorem ShowOk.str {x : Str} {k : Nat} (h : ∀ c ∈ x.cps.toList, c < 128) (hk : x.length ≤ k) : ShowOk 0 k (.str x) :=
  ⟨by rw [PyData.showable], by rw [PyData.hasDict], by
    rw [PyData.leavesShort, List.all_eq_true]
    intro c hc
    exact decide_eq_true (Nat.lt_trans (h c hc) (by decide)), by
    rw [PyData.canLay0]
    unfold PyData.strOk
    rw [Array.all_eq_true]
    intro i hi
    have := h x.cps[i] (by simp)
    exact decide_eq_true (by omega), by rw [PyData.depth]; exact Nat.le_refl _, by rw [PyData.bulk]; exact hk⟩
theorem ShowOk.name {x : Str} (h : isName x) : ShowOk 0 8 (.str x) := .str (fun c hc => by have := h.2.2 c hc; omega) h.2.1
theorem ShowAll.of {D n : Nat} : ∀ {ds : List PyData}, (∀ d ∈ ds, ShowOk D n d) → ShowAll D ((n + 1) * ds.length) ds
  | [], _ => .nil
  | d :: ds, h => (ShowAll.cons (h d (by simp)) (ShowAll.of fun e he => h e (by simp [he]))).mono (Nat.le_refl _) (by rw [List.length_cons, Nat.mul_succ]; omega)
theorem ShowAll.one {D n : Nat} {d : PyData} (h : ShowOk D n d) : ShowAll D (n + 1) [d] := ShowAll.cons h (ShowAll.nil (N := 0))
theorem ShowOk.fits {D N : Nat} {d : PyData} (h : ShowOk D N d) (hN : N ≤ 200000) : d.shown.length ≤ sizeLine := by
  have h1 := PyData.shown_le_bulk 64 (by decide) d h.sl
  have h2 := h.bk
  have h3 : (64 + 2) * d.bulk ≤ 66 * 200000 := Nat.mul_le_mul_left 66 (Nat.le_trans h2 hN)
  show _ ≤ 16777216
  omega
theorem ShowOk.shaped {D N : Nat} {d : PyData} (h : ShowOk D N d) (hD : D ≤ 63) : SeqAt.shaped d = true := by
  unfold SeqAt.shaped
  rw [h.cl, Bool.true_and, decide_eq_true_eq]
  have := h.dp
  omega
/-- two shown things are compared -/
def spSame (K : PySem.W.Frag) : Sp := fun vs H Q _ => ∃ (v1 v2 : V) (d1 d2 : PyData) (D N : Nat), vs = [v1, v2] ∧ Dp K H v1 d1 ∧ Dp K H v2 d2 ∧ ShowOk D N d1 ∧ ShowOk D N d2 ∧ D ≤ 90 ∧ N ≤ 200000 ∧ Q (.bl (decide (d1.shown = d2.shown))) H
theorem pure_same {K : PySem.W.Frag} {w : World} : PureOk 2 (spSame K) (t_law_same K w) 2 := by
  refine ⟨fun vs H Q E ⟨_, _, _, _, _, _, e, _⟩ => by rw [e]; rfl, ?_⟩
  rintro vs H Q E ⟨v1, v2, d1, d2, D, N, rfl, h1, h2, s1, s2, hD, hN, q⟩
  show t_law_same K w _ [some v1, some v2] H
  unfold t_law_same
  walk_at "gg"
  refine g_repr h1 s1.sh s1.nd (Nat.le_trans s1.dp hD) (s1.fits hN) ?_
  walk_at "gg"
  refine g_repr h2 s2.sh s2.nd (Nat.le_trans s2.dp hD) (s2.fits hN) ?_
  walk_at "gg"
  exact q

/-! ### built rows; a law's own ways -/
def backD : PyData := .tuple [.str "back"]
def spRowsOf (F : (Str → Way) → Part → List PyData) : Sp := fun vs H Q _ => ∃ (v : V) (P : Prog) (f : Str) (j : Nat) (p : Part) (ts : List Str), vs = [v, .str f] ∧ Tp H v P.data ∧ P.fine ∧ FnAt P f j p ts ∧
  ∀ (a : Addr) (us : List V) (H' : Hp), H' a = some (.tup us) → Tps H' us (F (waysOf ts p) p ++ [backD]) → Same H H' → Q (.ref a) H'
theorem FnAt.deep {P : Prog} {f : Str} {j : Nat} {p : Part} {ts : List Str} (h : FnAt P f j p ts) : p.deep ≤ 12 := h.fine.deep
/-! a law's own -/
theorem pure_allwithin {K : PySem.W.Frag} {w : World} : PureOk 1 spKids (t_law_all_within K w) 3 := by
  refine ⟨fun vs H Q E ⟨_, _, e, _⟩ => by rw [e]; rfl, ?_⟩
  rintro vs H Q E ⟨v, p, rfl, t, hg, hz, q⟩
  show t_law_all_within K w _ [some v, none, none] H
  unfold t_law_all_within
  have leafy : ∀ {x : Str} {y : V} {a : Addr}, H a = some (.tup [.str x, y]) → p.kids = [] → decide (x = "let") = false → inV (.str x) [V.str "number", V.str "name", V.str "fun"] = true → t_law_all_within K w { nx := fun _ H' => Q .non H', rt := Q } [some (.ref a), none, none] H := by
    intro x y a ea hk hl hin
    unfold t_law_all_within
    walk_at "gg"
    refine g_F hl ?_
    walk_at "gg"
    rename_i a1 H1 n1 e1 s1
    refine g_inX (r := true) e1 rfl hin ?_
    walk_at "gg"
    rename_i a2 H2 n2 e2 s2
    exact q a2 [] H2 (s1.free n2) e2 (by rw [hk]; exact .nil) (s1.trans s2)
  rcases word_cases p with ⟨n, rfl⟩ | ⟨x, rfl⟩ | ⟨f, rfl⟩ | ⟨r, b, rfl⟩ | ⟨b, rfl⟩ | ⟨hw, hs⟩
  · obtain ⟨a, u1, u2, rfl, ea, t1, t2⟩ := id t.two
    rw [t1.str_inv] at ea
    exact leafy ea rfl rfl rfl
  · obtain ⟨a, u1, u2, rfl, ea, t1, t2⟩ := id t.two
    rw [t1.str_inv] at ea
    exact leafy ea rfl rfl rfl
  · obtain ⟨a, u1, u2, rfl, ea, t1, t2⟩ := id t.two
    rw [t1.str_inv] at ea
    exact leafy ea rfl rfl rfl
  · obtain ⟨a, ra, rs, u, rfl, ea, er, tr, tb⟩ := letTp t
    have hrl : rs.length = r.list.length := by rw [tr.length, List.length_map]
    have hrz : r.list.length ≤ 60 := by
      have h1 := sz_len (r.list.map (·.2))
      have h2 := r.sz
      rw [Rows.list_parts] at h2
      rw [List.length_map] at h1
      have h3 : (Part.letp r b).size = 1 + (r.size + b.size) := rfl
      omega
    walk_at "gg"
    refine g_seqT ?_
    walk_at "gg"
    refine lc_mapT er (by omega) (fun i y H' => ∃ q2, r.list[i]? = some q2 ∧ Tp H' y q2.2.data) (fun i y H H' k ⟨q2, h1, h2⟩ => ⟨q2, h1, h2.mono k⟩) ?_ ?_
    · intro i x H' Nx hx s hN
      obtain ⟨dd, hdd, tx⟩ := tr.get hx
      rw [List.getElem?_map] at hdd
      obtain ⟨q2, hq2, rfl⟩ := Option.map_eq_some_iff.mp hdd
      obtain ⟨c, u2, rfl, ec, tu2⟩ := rowD_inv tx
      refine g_un2 (s _ _ ec) ?_
      refine ⟨rfl, ?_⟩
      walk_at "gg"
      exact hN _ _ (.refl _) ⟨q2, hq2, tu2.mono (Same.tk s)⟩
    · intro D ys H2 nD eD hys hF s2
      have ea2 := s2 _ _ ea
      walk_at "gg"
      rename_i a3 H3 n3 e3 s3 a4 H4 n4 e4 s4
      refine q a4 _ H4 (s2.free (s3.free n4)) e4 ?_ (s2.trans (s3.trans s4))
      show Tps H4 _ ((r.parts ++ [b]).map Part.data)
      rw [List.map_append, Rows.list_parts]
      refine Tps.append (Tps.mono (H := H2) (Same.tk (s3.trans s4)) (Tps.of_get (by rw [hys, hrl, List.length_map, List.length_map]) fun i y hy => ?_)) (.one (tb.mono (Same.tk (s2.trans (s3.trans s4)))))
      obtain ⟨q2, h1, h2⟩ := hF i y hy
      exact ⟨_, by rw [List.map_map, List.getElem?_map, h1]; rfl, h2⟩
  · exact hg.1.elim fun _ h => h.elim fun _ h => h.elim
  · obtain ⟨a, xs, rfl, ea, tx⟩ := id t.part
    have hwl : decide (p.word = "let") = false := decide_eq_false fun e => hw (by rw [e]; simp)
    walk_at "gg"
    refine g_F hwl ?_
    walk_at "gg"
    rename_i a1 H1 n1 e1 s1
    refine g_inX (r := false) e1 rfl ?_ ?_
    · have hx : p.word ∉ [("number" : Str), "name", "fun"] := fun hx => hw (by
        simp only [List.mem_cons, List.not_mem_nil, or_false] at hx ⊢
        rcases hx with hx | hx | hx
        · exact .inl hx
        · exact .inr (.inr (.inr hx))
        · exact .inr (.inl hx))
      have := inV_str (k := p.word) [("number" : Str), "name", "fun"]
      rw [decide_eq_false hx] at this
      exact this
    have ea1 := s1 _ _ ea
    have hal : p.args.length = p.kids.length := by rw [Part.args_subs hw, subs_kids hw hs, List.length_map]
    have hxl : xs.length = p.kids.length := by rw [tx.length, hal]
    have hcut : cutV (V.str p.word :: xs) (some 1) none = xs := cut_tail
    walk_at "gg"
    refine g_slT (.of ea1) (not_whole (by simp)) ?_
    rw [hcut]
    walk_at "gg"
    rename_i a2 H2 n2 e2 s2 a3 H3 n3 e3 s3
    refine q a3 _ H3 (s1.free (s2.free n3)) e3 ?_ (s1.trans (s2.trans s3))
    have := tx.mono (Same.tk (s1.trans (s2.trans s3)))
    rw [Part.args_subs hw, subs_kids hw hs] at this
    exact this
theorem FnAt.of_name {P : Prog} {f : Str} {j : Nat} {p : Part} {ts : List Str} (h : FnAt P f j p ts) (hF : P.fine) {i : Nat} {fn : Fn1} (hi : P.fs[i]? = some fn) (e : fn.name = f) : p = fn.body ∧ ts = fn.things := by
  have hin : P.names[i]? = some f := by
    show (P.fs.map (·.name))[i]? = _
    rw [List.getElem?_map, hi, ← e]
    rfl
  have hm := List.mem_of_getElem? hin
  have uniq : ∀ {k : Nat}, P.names[k]? = some f → k = i := fun {k} hk => ((List.getElem?_inj (List.getElem?_eq_some_iff.mp hin).1 hF.nd).mp (hin.trans hk.symm)).symm
  constructor
  · rcases h.num with hj | ⟨hj, _⟩
    · have := uniq hj
      subst this
      have hb := h.body
      have hl := (List.getElem?_eq_some_iff.mp hi).1
      have hb' : (P.fs.map (·.body) ++ [P.asked])[j]? = some p := hb
      rw [List.getElem?_append_left (by rw [List.length_map]; exact hl), List.getElem?_map, hi] at hb'
      exact (Option.some.inj hb').symm
    · exact absurd hm hj
  · rcases h.things with ⟨k, fn', hk, hn, ht⟩ | ⟨hn, _⟩
    · have : k = i := uniq (by show (P.fs.map (·.name))[k]? = _; rw [List.getElem?_map, hk, ← hn]; rfl)
      subst this
      rw [hi] at hk
      cases hk
      exact ht
    · exact absurd hm hn
theorem FnAt.of_asked {P : Prog} {f : Str} {j : Nat} {p : Part} {ts : List Str} (h : FnAt P f j p ts) (hn : f ∉ P.names) : p = P.asked ∧ ts = [] := by
  constructor
  · rcases h.num with hj | ⟨_, hj⟩
    · exact absurd (List.mem_of_getElem? hj) hn
    · have hb' : (P.fs.map (·.body) ++ [P.asked])[j]? = some p := h.body
      have hl : j = P.fs.length := by rw [hj]; show (P.fs.map _).length = _; rw [List.length_map]
      rw [hl, List.getElem?_append_right (by rw [List.length_map]; exact Nat.le_refl _), List.length_map, Nat.sub_self] at hb'
      exact (Option.some.inj hb').symm
  · rcases h.things with ⟨k, fn', hk, hn', ht⟩ | ⟨_, ht⟩
    · exact absurd (List.mem_map.mpr ⟨fn', List.mem_of_getElem? hk, hn'⟩) hn
    · exact ht
def spLBodyOf : Sp := fun vs H Q _ => ∃ (v : V) (P : Prog) (f : Str) (j : Nat) (p : Part) (ts : List Str), vs = [v, .str f] ∧ Tp H v P.data ∧ P.fine ∧ FnAt P f j p ts ∧
  ∀ (a b : Addr) (v' : V) (H' : Hp), H' a = some (.tup [.ref b, v']) → H' b = some (.tup (ts.map V.str)) → Tp H' v' p.data → Same H H' → Q (.ref a) H'
theorem pure_lbodyof {K : PySem.W.Frag} {w : World} : PureOk 2 spLBodyOf (t_law_body_of K w) 5 := by
  refine ⟨fun vs H Q E ⟨_, _, _, _, _, _, e, _⟩ => by rw [e]; rfl, ?_⟩
  rintro vs H Q E ⟨v, P, f, j, p, ts, rfl, tP, hfine, hA, q⟩
  show t_law_body_of K w _ [some v, some (.str f), none, none, none] H
  unfold t_law_body_of
  obtain ⟨pa, fa, u, vs, rfl, epa, efa, tfs, tas⟩ := tP.prog
  have hvl : vs.length = P.fs.length := by rw [tfs.length, List.length_map]
  walk_at "gg"
  refine g_seqT ?_
  walk_at "gg"
  refine for_T (xs := vs) (fun i σ H' => ∃ (x2 x3 x4 : Option V), σ = [some (.ref pa), some (.str f), x2, x3, x4] ∧ (∀ g ∈ P.fs.take i, g.name ≠ f) ∧ Same H H') (fun i σ H' ⟨_, _, _, _, _, s⟩ => s _ _ efa) ⟨_, _, _, rfl, by simp, .refl _⟩ ?_ ?_
  · rintro i x σ H4 hx ⟨x2, x3, x4, rfl, hno, s4⟩
    obtain ⟨fn, hfn, td⟩ := Prog.fn_atR tfs hx
    obtain ⟨a3, b3, u3, rfl, ea3, eb3, tu3⟩ := td.fn1
    have ea4 := s4 _ _ ea3
    refine g_un3 ea4 ?_
    walk_at "gg"
    by_cases hn : fn.name = f
    · refine g_T (decide_eq_true hn) ?_
      obtain ⟨rfl, rfl⟩ := hA.of_name hfine hfn hn
      walk_at "gg"
      rename_i a5 H5 n5 e5 s5
      exact q a5 b3 u3 H5 e5 (s5 _ _ (s4 _ _ eb3)) (tu3.mono (Same.tk (s4.trans s5))) (s4.trans s5)
    · refine g_F (decide_eq_false hn) ?_
      walk_at "gg"
      refine ⟨_, _, _, rfl, fun g hg => ?_, s4⟩
      rw [List.take_add_one, hfn] at hg
      rcases List.mem_append.mp hg with h | h
      · exact hno g h
      · rw [List.mem_singleton.mp h]
        exact hn
  · rintro σ H4 ⟨x2, x3, x4, rfl, hno, s4⟩
    rw [hvl, List.take_length] at hno
    have hn : f ∉ P.names := fun hm => by
      obtain ⟨g, hg, e⟩ := List.mem_map.mp hm
      exact hno g hg e
    obtain ⟨rfl, rfl⟩ := hA.of_asked hn
    have epa4 := s4 _ _ epa
    walk_at "gg"
    rename_i a5 H5 n5 e5 s5 a6 H6 n6 e6 s6
    exact q a6 a5 u H6 e6 (s6 _ _ e5) (tas.mono (Same.tk (s4.trans (s5.trans s6)))) (s4.trans (s5.trans s6))
def spLWays : Sp := fun vs H Q _ => ∃ (v : V) (P : Prog) (f : Str) (j : Nat) (p : Part) (ts : List Str), vs = [v, .str f] ∧ Tp H v P.data ∧ P.fine ∧ FnAt P f j p ts ∧
  ∀ (d : Addr) (H' : Hp), WaysAt H' d (ts ++ p.rowNames) (waysOf ts p) → Same H H' → Q (.ref d) H'
theorem flatMap_eq {α β : Type} {g h : α → List β} : ∀ {l : List α}, (∀ a ∈ l, g a = h a) → l.flatMap g = l.flatMap h
  | [], _ => rfl
  | a :: l, e => by rw [List.flatMap_cons, List.flatMap_cons, e a (by simp), flatMap_eq fun b hb => e b (by simp [hb])]
theorem Part.rn_kids (p : Part) : p.rowNames = p.binds ++ p.kids.flatMap Part.rowNames := by
  have h := p.binds_all
  rw [p.all_kids, List.flatMap_cons] at h
  rw [← h, List.flatMap_assoc]
  congr 1
  exact flatMap_eq fun q _ => q.binds_all
/-- what holds at each turn of the law's while -/
def LWInv (H : Hp) (v v1 : V) (f : Str) (b d : Addr) (ts : List Str) (p : Part) (m : Nat) (σ : L2.St) (H' : Hp) : Prop := ∃ (x5 x8 x9 x10 : Option V) (pl : Addr) (us : List V) (ps : List Part) (R : List Str), σ = [some v, some (.str f), some (.ref b), some v1, some (.ref d), x5, some (.int R.length), some (.ref pl), x8, x9, x10] ∧ H' pl = some (.lst us) ∧ H pl = none ∧
  Tps H' us (ps.map Part.data) ∧ allGood ps ∧ p.rowNames = R ++ ps.flatMap Part.rowNames ∧ sz ps ≤ 60 ∧ m = sz ps ∧ WaysB H' d (ts ++ R) (waysOf ts p) ∧ Same H H' ∧ pl ≠ d
theorem pure_lways {K : PySem.W.Frag} {w : World} : PureOk 2 spLWays (t_law_ways K w spLBodyOf spKids) 11 := by
  refine ⟨fun vs H Q E ⟨_, _, _, _, _, _, e, _⟩ => by rw [e]; rfl, ?_⟩
  rintro vs H Q E ⟨v, P, f, j, p, ts, rfl, tP, hfine, hA, q⟩
  show t_law_ways K w _ _ _ [some v, some (.str f), none, none, none, none, none, none, none, none, none] H
  unfold t_law_ways
  walk_at "gg"
  refine ⟨v, P, f, j, p, ts, rfl, tP, hfine, hA, fun a b v1 H1 e1 eb1 t1 s1 => ?_⟩
  walk_at "gg"
  rename_i d H2 n2 e2 s2
  have eb2 := s2 _ _ eb1
  have t2 := t1.mono (Same.tk s2)
  have s02 := s1.trans s2
  have hd0 : H d = none := s1.free n2
  have tlen : (ts.map V.str).length = ts.length := List.length_map _
  have hlt := hA.few
  walk_at "gg"
  refine g_isrng (by rw [tlen]; omega) (by rw [tlen]; omega) ?_
  rw [tlen]
  refine for_any ts.length (fun i σ H' => ∃ x5 : Option V, σ = [some v, some (.str f), some (.ref b), some v1, some (.ref d), x5, none, none, none, none, none] ∧ WaysB H' d (ts.take i) (waysOf ts p) ∧ Same H H' ∧ Tk H2 H')
    ⟨none, rfl, .nil e2, s02, .refl _⟩ (fun i σ H' hi _ => (by show (i : Nat) < _; omega)) (fun σ H' _ => (by show _ ≤ (ts.length : Nat); omega)) ?_ ?_
  · rintro i x σ H4 _ hi ⟨x5, rfl, w4, s4, k4⟩ ⟨rfl, rfl⟩
    obtain ⟨nm, hnm⟩ : ∃ nm, ts[i]? = some nm := ⟨_, List.getElem?_eq_getElem hi⟩
    walk_at "gg"
    rename_i a5 H5 n5 e5 s5
    have eb5 := s5 _ _ (k4 _ _ eb2)
    walk_at "gg"
    refine g_ixT (.of eb5) (v := .str nm) (atI_of (by omega) (by rw [List.getElem?_map, show (0 + (i : Int)).toNat = i from by omega, hnm]; rfl)) ?_
    refine g_setW (w4.same s5) (by rw [List.length_take]; omega) (a := a5) (by rw [ways_thing hA.nd hnm]; simpa using e5) fun H8 w8 c8 k8 => ?_
    walk_at "gg"
    refine ⟨_, rfl, ?_, fun b o e => c8 b o (ne_of_none e hd0) (s5 b o (s4 b o e)), (k4.trans (Same.tk s5)).trans k8⟩
    rw [List.take_add_one, hnm]
    exact w8
  rintro σ H4 ⟨x5, rfl, w4, s4, k4⟩
  rw [List.take_length] at w4
  have t4 := t2.mono k4
  clear e2 n2 s2 eb2 eb1 e1
  walk_at "gg"
  rename_i pl H5 n5 e5 s5
  walk_at "gg"
  have hrl := p.rn_len
  have hz := hA.fine.size
  refine while_any (LWInv H v v1 f b d ts p) (p.size + 0)
    ⟨x5, none, none, none, pl, [v1], [p], [], rfl, e5, s4.free n5, .one (t4.mono (Same.tk s5)), fun x hx => by rw [List.mem_singleton.mp hx]; exact hA.fine.good, by simp, by show p.size + 0 ≤ 60; omega, rfl, by rw [List.append_nil]; exact w4.same s5, s4.trans s5, fun e => by
      obtain ⟨kvs, ed, _⟩ := w4
      rw [← e] at ed
      rw [n5] at ed
      cases ed⟩ ?_
  clear e5 s5 n5 w4 t4 s4 k4
  rintro m σ H6 ⟨x5, x8, x9, x10, pl, us, ps, R, rfl, e6, hpl, tu, hgs, hR, hsz, rfl, w6, s6, hpd⟩
  walk_at "gg"
  rename_i a7 H7 n7 e7 s7
  have e67 := s7 _ _ e6
  cases ps with
  | nil =>
    rw [tu.nil_inv] at e67 ⊢
    refine g_F rfl ?_
    walk_at "gg"
    rw [List.flatMap_nil, List.append_nil] at hR
    exact q d H7 (by rw [hR]; exact w6.at.same s7) (s6.trans s7)
  | cons p1 ps =>
    obtain ⟨u1, us', rfl, tu1, tus⟩ := tu.cons_inv
    have hg1 := hgs p1 (by simp)
    have hs1 : p1.size + sz ps ≤ 60 := hsz
    refine g_T rfl ?_
    refine g_turn ?_
    walk_at "gg"
    refine g_popA e67 ?_
    walk_at "gg"
    rename_i H8 e8 c8
    have k8 : Tk H6 H8 := (Same.tk s7).trans (c8.tkl e67)
    have w8 : WaysB H8 d (ts ++ R) (waysOf ts p) := (w6.same s7).chg c8 e67
    have s8 : Same H H8 := fun b o e => c8 b o (ne_of_none e hpl) (s7 b o (s6 b o e))
    have tu8 := tu1.mono k8
    have tus8 := tus.mono k8
    have hrk := p1.rn_kids
    rw [List.flatMap_cons, hrk, List.append_assoc] at hR
    -- the end of both ways
    have fin : ∀ {x9 x10 : Option V} {H9 : Hp} {D : Ends}, (∀ σ' H', (∃ m', m' < sz (p1 :: ps) ∧ LWInv H v v1 f b d ts p m' σ' H') → D.nx σ' H') → WaysB H9 d (ts ++ (R ++ p1.binds)) (waysOf ts p) → H9 pl = some (.lst us') → Tk H8 H9 → Same H H9 →
        tAsg (tOp (rAddG K) (tCall spKids [] E0 (tCons (tVar 8) tNil)) (tVar 7)) (gName 7) D
          [some v, some (.str f), some (.ref b), some v1, some (.ref d), x5, some (.int (R ++ p1.binds).length), some (.ref pl), some u1, x9, x10] H9 := by
      intro x9 x10 H9 D hD w9 e9 k9 s9
      walk_at "gg"
      refine ⟨u1, p1, rfl, tu8.mono k9, hg1, by omega, fun l ks H10 nl el tk s10 => ?_⟩
      have hkl : ks.length = p1.kids.length := by rw [tk.length, List.length_map]
      have hk1 := sz_len p1.kids
      have hk2 := p1.sz_kids
      have hk3 := sz_len ps
      have hul : us'.length = ps.length := by rw [tus8.length, List.length_map]
      walk_at "gg"
      refine g_addL el (s10 _ _ e9) (by rw [hkl, hul]; show _ ≤ 16777216; omega) ?_
      walk_at "gg"
      rename_i l11 H11 n11 e11 s11
      refine hD _ _ ⟨sz (p1.kids ++ ps), ?_, x5, some u1, x9, x10, l11, ks ++ us', p1.kids ++ ps, R ++ p1.binds, rfl, e11, s9.free (s10.free n11), ?_, fun x hx => ?_, ?_, ?_, rfl, w9.same (s10.trans s11), s9.trans (s10.trans s11), fun e => ?_⟩
      · rw [sz_app]
        show _ < p1.size + sz ps
        omega
      · rw [List.map_append]
        exact Tps.append (tk.mono (Same.tk s11)) ((tus8.mono k9).mono (Same.tk (s10.trans s11)))
      · rcases List.mem_append.mp hx with h | h
        · exact hg1.kids x h
        · exact hgs x (by simp [h])
      · rw [hR, List.flatMap_append, List.append_assoc]
      · rw [sz_app]
        omega
      · obtain ⟨kvs, ed, _⟩ := w9.same s10
        rw [← e, n11] at ed
        cases ed
    by_cases hlet : ∃ r c, p1 = .letp r c
    · obtain ⟨r, c, rfl⟩ := hlet
      obtain ⟨pa, ra, rs, u, rfl, ea, er, tr, tb⟩ := letTp tu8
      have hrl2 : rs.length = r.list.length := by rw [tr.length, List.length_map]
      walk_at "gg"
      refine g_seqT ?_
      walk_at "gg"
      refine for_T (xs := rs) (fun k σ H' => ∃ (x9 x10 : Option V), σ = [some v, some (.str f), some (.ref b), some v1, some (.ref d), x5, some (.int (R.length + k : Nat)), some (.ref pl), some (.ref pa), x9, x10] ∧ WaysB H' d (ts ++ (R ++ r.names.take k)) (waysOf ts p) ∧
          H' pl = some (.lst us') ∧ Same H H' ∧ Tk H8 H') (fun k σ H' ⟨_, _, _, _, _, _, k'⟩ => k' _ _ er) ⟨_, _, rfl, by rw [List.take_zero, List.append_nil]; exact w8, e8, s8, .refl _⟩ ?_ ?_
      · rintro k y σ H9 hy ⟨x9, x10, rfl, w9, e9, s9, k9⟩
        obtain ⟨dd, hdd, ty⟩ := (tr.mono k9).get hy
        rw [List.getElem?_map] at hdd
        obtain ⟨q3, hq3, rfl⟩ := Option.map_eq_some_iff.mp hdd
        obtain ⟨c3, u3, rfl, ec3, tu3⟩ := rowD_inv ty
        have hnk : r.names[k]? = some q3.1 := by rw [Rows.list_names, List.getElem?_map, hq3]; rfl
        have hkl := (List.getElem?_eq_some_iff.mp hnk).1
        walk_at "gg"
        rename_i a8 H10 n10 e10 s10
        walk_at "gg"
        have hat : p.rowNames[R.length + k]? = some q3.1 := by
          rw [hR, List.getElem?_append_right (Nat.le_add_right _ _), Nat.add_sub_cancel_left, show (Part.letp r c).binds = r.names from rfl, List.getElem?_append_left hkl]
          exact hnk
        have hway := hA.local' hat
        have hkr := (List.getElem?_eq_some_iff.mp hat).1
        refine g_setW (w9.same s10) (by rw [List.length_append, List.length_append, List.length_take]; omega) (a := a8) (x := q3.1) (by rw [hway]; exact e10) fun H11 w11 c11 k11 => ?_
        walk_at "gg"
        refine ⟨_, _, rfl, ?_, c11 _ _ hpd (s10 _ _ e9), fun b o e => c11 b o (ne_of_none e hd0) (s10 b o (s9 b o e)), (k9.trans (Same.tk s10)).trans k11⟩
        rw [List.take_add_one, hnk, Option.toList_some, ← List.append_assoc, ← List.append_assoc]
        rw [← List.append_assoc] at w11
        exact w11
      · rintro σ H9 ⟨x9, x10, rfl, w9, e9, s9, k9⟩
        have hnl : r.names.length = rs.length := by rw [hrl2, Rows.list_names, List.length_map]
        rw [← hnl, List.take_length] at w9
        have e : (R.length + rs.length : Nat) = (R ++ (Part.letp r c).binds).length := by
          rw [List.length_append]
          show _ = R.length + r.names.length
          rw [hnl]
        rw [e]
        exact fin (fun _ _ h => h) w9 e9 k9 s9
    · obtain ⟨h1, h2⟩ := Part.not_let (p := p1) fun r a e => hlet ⟨r, a, e⟩
      obtain ⟨pa, xs, rfl, ea, txs⟩ := id tu8.part
      walk_at "gg"
      refine g_F (decide_eq_false h1) ?_
      have e : (R ++ p1.binds).length = R.length := by rw [h2, List.append_nil]
      rw [← e]
      exact fin (x9 := x9) (x10 := x10) (H9 := H8) (D := { nx := fun σ' H' => ∃ m', m' < sz (p1 :: ps) ∧ LWInv H v v1 f b d ts p m' σ' H', rt := Q }) (fun _ _ h => h) (by rw [h2, List.append_nil]; exact w8) e8 (.refl _) s8
def spFunctions : Sp := fun vs H Q _ => ∃ (v : V) (P : Prog), vs = [v] ∧ Tp H v P.data ∧ P.fine ∧ ∀ (l : Addr) (H' : Hp), H l = none → H' l = some (.lst ((P.names ++ [("" : Str)]).map V.str)) → Same H H' → Q (.ref l) H'
theorem pure_functions {K : PySem.W.Frag} {w : World} : PureOk 1 spFunctions (t_law_functions K w) 2 := by
  refine ⟨fun vs H Q E ⟨_, _, e, _⟩ => by rw [e]; rfl, ?_⟩
  rintro vs H Q E ⟨v, P, rfl, tP, hfine, q⟩
  show t_law_functions K w _ [some v, none] H
  unfold t_law_functions
  obtain ⟨pa, fa, u, vs, rfl, epa, efa, tfs, tas⟩ := tP.prog
  have hvl : vs.length = P.fs.length := by rw [tfs.length, List.length_map]
  have hfew := hfine.few
  walk_at "gg"
  refine g_seqT ?_
  walk_at "gg"
  refine lc_mapT efa (by omega) (fun i y H' => ∃ f, P.fs[i]? = some f ∧ y = .str f.name) (fun i y H H' k h => h) ?_ ?_
  · intro i x H' Nx hx s hN
    obtain ⟨f, hf, td⟩ := Prog.fn_atR tfs hx
    obtain ⟨a3, b3, u3, rfl, ea3, eb3, tu3⟩ := td.fn1
    walk_at "gg"
    refine ⟨rfl, ?_⟩
    walk_at "gg"
    exact hN _ _ (.refl _) ⟨f, hf, rfl⟩
  · intro D ys H2 nD eD hys hF s2
    have hy : ys = P.names.map V.str := by
      refine List.ext_getElem? fun i => ?_
      show _ = ((P.fs.map (·.name)).map V.str)[i]?
      rw [List.map_map, List.getElem?_map]
      cases e : ys[i]? with
      | none =>
        rw [List.getElem?_eq_none_iff] at e
        rw [List.getElem?_eq_none (by omega)]
        rfl
      | some y =>
        obtain ⟨f, hf, rfl⟩ := hF i y e
        rw [hf]
        rfl
    subst hy
    walk_at "gg"
    rename_i a3 H3 n3 e3 s3
    refine g_addL (s3 _ _ eD) e3 (by rw [hys, hvl]; simp only [List.length_singleton]; show _ ≤ 16777216; omega) ?_
    walk_at "gg"
    rename_i a4 H4 n4 e4 s4
    exact q a4 H4 (s2.free (s3.free n4)) (by rw [e4, List.map_append]; rfl) (s2.trans (s3.trans s4))

/-! ### steps may be shown -/
def WsOk (ws : Str → Way) : Prop := ∀ x, ((ws x).1 = "thing" ∨ (ws x).1 = "local") ∧ (ws x).2 ≤ 1000
theorem asc {x : Str} {k : Nat} (h : (x.cps.toList.all fun c => decide (c < 128)) = true) (hk : x.length ≤ k) : ShowOk 0 k (.str x) :=
  .str (fun c hc => of_decide_eq_true (List.all_eq_true.mp h c hc)) hk
theorem show1 {x : Str} {k : Nat} (h : ShowOk 0 k (.str x)) (hk : k ≤ 13) : ShowOk 1 14 (.tuple [.str x]) := (ShowOk.tup (ShowAll.one h)).mono (Nat.le_refl _) (by omega)
theorem show2 {x : Str} {d : PyData} {k m : Nat} (h : ShowOk 0 k (.str x)) (h2 : ShowOk 0 m d) (hk : k + m ≤ 12) : ShowOk 1 14 (.tuple [.str x, d]) := (ShowOk.tup (ShowAll.cons h (ShowAll.one h2))).mono (Nat.le_refl _) (by omega)
theorem show3 {x : Str} {d e : PyData} {k : Nat} (h : ShowOk 0 k (.str x)) (h2 : ShowOk 0 0 d) (h3 : ShowOk 0 0 e) (hk : k ≤ 11) : ShowOk 1 14 (.tuple [.str x, d, e]) := (ShowOk.tup (ShowAll.cons h (ShowAll.cons h2 (ShowAll.one h3)))).mono (Nat.le_refl _) (by omega)
theorem way_show {ws : Str → Way} (h : WsOk ws) (x : Str) : ShowOk 1 14 (wayD (ws x)) := by
  have hn := (h x).2
  rcases (h x).1 with e | e
  · exact show2 (k := 5) (m := 0) (by rw [e]; exact asc (by decide) (by decide)) (ShowOk.nat (by omega)) (by decide)
  · exact show2 (k := 5) (m := 0) (by rw [e]; exact asc (by decide) (by decide)) (ShowOk.nat (by omega)) (by decide)
theorem tie_show {ws : Str → Way} (h : WsOk ws) (x : Str) : ShowOk 1 14 (tieD ws x) := show2 (k := 3) (m := 0) (asc (by decide) (by decide)) (ShowOk.nat (by have := (h x).2; omega)) (by decide)
theorem K1.show (k : K1) : ShowOk 1 14 (.tuple [.str k.word]) := show1 (k := 5) (by cases k <;> exact asc (by decide) (by decide)) (by decide)
theorem K2.show (k : K2) : ShowOk 1 14 (.tuple [.str k.word]) := show1 (k := 5) (by cases k <;> exact asc (by decide) (by decide)) (by decide)
theorem all_app {Pr : PyData → Prop} {a b : List PyData} (h : ∀ s ∈ a, Pr s) (h2 : ∀ s ∈ b, Pr s) : ∀ s ∈ a ++ b, Pr s := fun s hs => (List.mem_append.mp hs).elim (h s) (h2 s)
theorem all_one {Pr : PyData → Prop} {d : PyData} (h : Pr d) : ∀ s ∈ [d], Pr s := fun s hs => by rw [List.mem_singleton.mp hs]; exact h
theorem all_cons {Pr : PyData → Prop} {d : PyData} {a : List PyData} (h : Pr d) (h2 : ∀ s ∈ a, Pr s) : ∀ s ∈ d :: a, Pr s := fun s hs => (List.mem_cons.mp hs).elim (fun e => by rw [e]; exact h) (h2 s)
mutual
theorem Part.bld_show {ws : Str → Way} {dom : List Str} (hw : WsOk ws) : ∀ {p : Part}, p.inD dom → ∀ s ∈ p.bld ws, ShowOk 1 14 s
  | .num n, h => all_one (show2 (k := 6) (m := 0) (asc (by decide) (by decide)) (ShowOk.num h) (by decide))
  | .name x, _ => all_one (way_show hw x)
  | .fn f, h => all_one (show2 (k := 3) (m := 8) (asc (by decide) (by decide)) (ShowOk.name h) (by decide))
  | .one k a, h => all_app (Part.bld_show hw (p := a) h) (all_one k.show)
  | .two k a b, h => all_app (all_app (Part.bld_show hw (p := a) h.1) (Part.bld_show hw (p := b) h.2)) (all_one k.show)
  | .whn a b c, h => all_app (all_app (all_app (Part.bld_show hw (p := a) h.1) (Part.bld_show hw (p := b) h.2.1)) (Part.bld_show hw (p := c) h.2.2)) (all_one (show1 (k := 4) (asc (by decide) (by decide)) (by decide)))
  | .letp r a, h => all_cons (show3 (k := 4) (asc (by decide) (by decide)) (ShowOk.nat (by have := (hw (r.names.headD "")).2; omega)) (ShowOk.nat (by have := h.1; omega)) (by decide)) (all_app (Rows.opn_show hw (r := r) h.2.2.1) (Part.bld_show hw (p := a) h.2.2.2))
  | .shut _, h => h.elim
theorem Rows.opn_show {ws : Str → Way} {dom : List Str} (hw : WsOk ws) : ∀ {r : Rows}, r.inD dom → ∀ s ∈ r.opn ws, ShowOk 1 14 s
  | .nil, _ => fun s hs => absurd hs (by simp [Rows.opn])
  | .cons x a r, h => all_app (Part.bld_show hw (p := a) h.2.1) (all_cons (tie_show hw x) (Rows.opn_show hw (r := r) h.2.2))
end
theorem back_show : ShowOk 1 14 backD := show1 (k := 4) (asc (by decide) (by decide)) (by decide)
section
variable {P : Prog} {f : Str} {j : Nat} {p : Part} {ts : List Str}
theorem FnAt.wsok (h : FnAt P f j p ts) : WsOk (waysOf ts p) := fun x => by
  unfold waysOf
  split
  · have := List.idxOf_le_length (a := x) (l := ts)
    have := h.few
    exact ⟨.inl rfl, by show ts.idxOf x ≤ 1000; omega⟩
  · have := List.idxOf_le_length (a := x) (l := p.rowNames)
    have := p.rn_len
    have := h.fine.size
    exact ⟨.inr rfl, by show p.rowNames.idxOf x ≤ 1000; omega⟩
end
/-! ### programs are alike -/
theorem sql_pen {K : PySem.W.Frag} {H H' : Hp} {a pen : Addr} {xs : List V} (h : SqL K H a xs) (c : ∀ o, H a = some o → H' a = some o) : SqL K H' a xs := h.elim (fun h => .inl (h.elim (fun h => .inl (c _ h)) fun ⟨o, h⟩ => .inr ⟨o, c _ h⟩)) .inr
/-- behind a new pen and its draws -/
theorem sql_two {K : PySem.W.Frag} {H H1 H2 : Hp} {a pen : Addr} {xs : List V} (h : SqL K H a xs) (s : Same H H1) (c : Chg pen H1 H2) (n : H pen = none) : SqL K H2 a xs := sql_pen (pen := pen) h fun o e => c _ _ (ne_of_none e n) (s _ _ e)
theorem Prog.depth {P : Prog} (h : P.fine) : PyData.depth P.data ≤ 60 := by
  have hb : ∀ {fs sc : List Str} {p : Part}, p.fine fs sc → PyData.depth p.data ≤ 36 := fun hp => by
    have h1 := (Part.lay hp.ok).2
    have h2 := hp.deep
    omega
  have hf : ∀ d ∈ P.fs.map Fn1.data, PyData.depth d ≤ 38 := by
    intro d hd
    obtain ⟨f, hf, rfl⟩ := List.mem_map.mp hd
    have h1 := hb (h.fs f hf).body
    have h2 : PyData.depthAll (f.things.map PyData.str) ≤ 0 := depAll_of fun d hd => by
      obtain ⟨x, _, rfl⟩ := List.mem_map.mp hd
      rw [PyData.depth]
      exact Nat.le_refl _
    simp only [Fn1.data, PyData.depth, PyData.depthAll]
    omega
  have h1 := depAll_of hf
  have h2 := hb h.asked
  simp only [Prog.data, PyData.depth, PyData.depthAll]
  omega
theorem Tp.likeProg {K : PySem.W.Frag} {H : Hp} {P : Prog} {v v' : V} (h : Tp H v P.data) (h' : Tp H v' P.data) (hF : P.fine) : LkR K H (Lk K H 150) v v' := by
  have := Prog.depth hF
  refine Tp.likeR (ds := [.tuple (P.fs.map Fn1.data), P.asked.data]) h h' ?_
  have e : PyData.depth P.data = 1 + PyData.depthAll [.tuple (P.fs.map Fn1.data), P.asked.data] := by rw [show P.data = .tuple [.tuple (P.fs.map Fn1.data), P.asked.data] from rfl, PyData.depth]; omega
  omega
/-! ### rows that do a part -/
def K2.isOp : K2 → Bool
  | .plus => true
  | .less => true
  | .times => true
  | .below => true
  | _ => false
def doD (want : Str) : PyData := .tuple [.str "do", .str want]
def afterD (want : Str) : List PyData := if want = "" then [] else [doD want]
def pairD (want : Str) : List PyData := if want = "pair" then [doD "pair"] else []
def nowD (k : Str) : PyData := .tuple [.str "now", .str k]
def sideD (k : Str) : PyData := .tuple [.str "side", .str k]
def turnD (y z : List PyData) : PyData := .tuple [.str "turn", .tuple y, .tuple z]
/-- the leanest doing of a part by a want (or ending, by none) -/
def Part.dn (ws : Str → Way) : Part → Str → List PyData
  | .num n, want => (Part.num n).bld ws ++ afterD want
  | .name x, want => (Part.name x).bld ws ++ afterD want
  | .fn f, want => (Part.fn f).bld ws ++ afterD want
  | .one k a, want => a.dn ws "pair" ++ [sideD k.word] ++ afterD want
  | .two k a b, want => if k.isOp = true then a.dn ws "number" ++ b.dn ws "number" ++ [nowD k.word] ++ pairD want else (Part.two k a b).bld ws ++ afterD want
  | .whn a b c, want => a.dn ws "number" ++ [turnD (b.dn ws want) (c.dn ws want)]
  | .letp r a, want => r.opened ws ++ a.dn ws want
  | .shut a, want => (Part.shut a).bld ws ++ afterD want
/-- all doings -/
inductive DoneR (ws : Str → Way) : Part → Str → List PyData → Prop
  | bld (p : Part) (want : Str) : DoneR ws p want (p.bld ws ++ afterD want)
  | op {k : K2} {a b : Part} {want : Str} {x y : List PyData} : k.isOp = true → DoneR ws a "number" x → DoneR ws b "number" y → DoneR ws (.two k a b) want (x ++ y ++ [nowD k.word] ++ pairD want)
  | whn {a b c : Part} {want : Str} {x y z : List PyData} : DoneR ws a "number" x → DoneR ws b want y → DoneR ws c want z → DoneR ws (.whn a b c) want (x ++ [turnD y z])
  | one {k : K1} {a : Part} {want : Str} {x : List PyData} : DoneR ws a "pair" x → DoneR ws (.one k a) want (x ++ [sideD k.word] ++ afterD want)
  | letp {r : Rows} {a : Part} {want : Str} {x : List PyData} : DoneR ws a want x → DoneR ws (.letp r a) want (r.opened ws ++ x)
theorem after_len (want : Str) : (afterD want).length ≤ 1 := by unfold afterD; split <;> simp
theorem pairD_len (want : Str) : (pairD want).length ≤ 1 := by unfold pairD; split <;> simp
theorem opened_len (ws : Str → Way) (r : Rows) : (r.opened ws).length ≤ 1 + 4 * r.size := by
  have := r.opn_len ws
  show (_ :: r.opn ws).length ≤ _
  rw [List.length_cons]
  omega
theorem DoneR.len {ws : Str → Way} {p : Part} {want : Str} {x : List PyData} (h : DoneR ws p want x) : x.length ≤ 6 * p.size := by
  induction h with
  | bld p want =>
    have := p.bld_len ws
    have := after_len want
    rw [List.length_append]
    omega
  | @op k a b want x y hk _ _ ih1 ih2 =>
    have := pairD_len want
    show _ ≤ 6 * (1 + (a.size + b.size))
    simp only [List.length_append, List.length_singleton]
    omega
  | @whn a b c want x y z _ _ _ ih1 ih2 ih3 =>
    show _ ≤ 6 * (1 + (a.size + (b.size + c.size)))
    simp only [List.length_append, List.length_singleton]
    omega
  | @one k a want x _ ih =>
    have := after_len want
    show _ ≤ 6 * (1 + a.size)
    simp only [List.length_append, List.length_singleton]
    omega
  | @letp r a want x _ ih =>
    have := opened_len ws r
    show _ ≤ 6 * (1 + (r.size + a.size))
    simp only [List.length_append]
    omega
def wanted (want : Str) : Prop := want = "" ∨ want = "number" ∨ want = "pair"
theorem do_show {want : Str} (h : wanted want) : ShowOk 1 14 (doD want) := by
  rcases h with rfl | rfl | rfl
  · exact show2 (k := 2) (m := 0) (asc (by decide) (by decide)) (asc (by decide) (by decide)) (by decide)
  · exact show2 (k := 2) (m := 6) (asc (by decide) (by decide)) (asc (by decide) (by decide)) (by decide)
  · exact show2 (k := 2) (m := 4) (asc (by decide) (by decide)) (asc (by decide) (by decide)) (by decide)
theorem after_show {want : Str} (h : wanted want) : ShowAll 1 15 (afterD want) := by
  unfold afterD
  split
  · exact ShowAll.nil
  · exact ShowAll.one (do_show h)
theorem pairD_show (want : Str) : ShowAll 1 15 (pairD want) := by
  unfold pairD
  split
  · exact ShowAll.one (do_show (.inr (.inr rfl)))
  · exact ShowAll.nil
theorem opened_show {ws : Str → Way} {dom : List Str} (hw : WsOk ws) {r : Rows} (h : r.inD dom) (h4 : r.names.length ≤ 4) : ShowAll 1 (15 * (1 + 4 * r.size)) (r.opened ws) := by
  have h1 : ∀ s ∈ r.opened ws, ShowOk 1 14 s := all_cons (show3 (k := 4) (asc (by decide) (by decide)) (ShowOk.nat (by have := (hw (r.names.headD "")).2; omega)) (ShowOk.nat (by omega)) (by decide)) (Rows.opn_show hw h)
  exact (ShowAll.of h1).mono (Nat.le_refl _) (Nat.mul_le_mul_left 15 (opened_len ws r))
theorem DoneR.show {ws : Str → Way} {dom : List Str} (hw : WsOk ws) {p : Part} {want : Str} {x : List PyData} (h : DoneR ws p want x) : p.inD dom → wanted want → ShowAll (1 + 2 * p.deep) (80 * p.size) x := by
  induction h with
  | bld p want =>
    intro hp hq
    have h1 := ShowAll.of (Part.bld_show hw hp)
    refine (ShowAll.app h1 (after_show hq)).mono (by omega) ?_
    have := p.bld_len ws
    have := p.size_pos
    omega
  | @op k a b want x y hk _ _ ih1 ih2 =>
    intro hp hq
    have d1 := ih1 hp.1 (.inr (.inl rfl))
    have d2 := ih2 hp.2 (.inr (.inl rfl))
    have e : (Part.two k a b).deep = 1 + max a.deep b.deep := rfl
    have e2 : (Part.two k a b).size = 1 + (a.size + b.size) := rfl
    have hn : ShowAll 1 15 [nowD k.word] := ShowAll.one (show2 (k := 3) (m := 5) (asc (by decide) (by decide)) (by cases k <;> exact asc (by decide) (by decide)) (by decide))
    have := ShowAll.app (ShowAll.app (ShowAll.app (d1.mono (D' := 1 + 2 * (Part.two k a b).deep) (by omega) (Nat.le_refl _)) (d2.mono (by omega) (Nat.le_refl _))) (hn.mono (by omega) (Nat.le_refl _))) ((pairD_show want).mono (by omega) (Nat.le_refl _))
    exact this.mono (Nat.le_refl _) (by omega)
  | @whn a b c want x y z _ _ _ ih1 ih2 ih3 =>
    intro hp hq
    have d1 := ih1 hp.1 (.inr (.inl rfl))
    have d2 := ih2 hp.2.1 hq
    have d3 := ih3 hp.2.2 hq
    have e : (Part.whn a b c).deep = 1 + max a.deep (max b.deep c.deep) := rfl
    have e2 : (Part.whn a b c).size = 1 + (a.size + (b.size + c.size)) := rfl
    have t : ShowOk (1 + 2 * (Part.whn a b c).deep) (4 + 1 + (80 * b.size + 1 + (80 * c.size + 1))) (turnD y z) := by
      have u1 : ShowOk (2 + 2 * max b.deep c.deep) (80 * b.size) (.tuple y) := (ShowOk.tup d2).mono (by omega) (Nat.le_refl _)
      have u2 : ShowOk (2 + 2 * max b.deep c.deep) (80 * c.size) (.tuple z) := (ShowOk.tup d3).mono (by omega) (Nat.le_refl _)
      have u0 : ShowOk (2 + 2 * max b.deep c.deep) 4 (.str "turn") := (asc (by decide) (by decide)).mono (Nat.zero_le _) (Nat.le_refl _)
      exact (ShowOk.tup (ShowAll.cons u0 (ShowAll.cons u1 (ShowAll.one u2)))).mono (by omega) (Nat.le_refl _)
    exact (ShowAll.app (d1.mono (by omega) (Nat.le_refl _)) (ShowAll.one t)).mono (Nat.le_refl _) (by omega)
  | @one k a want x _ ih =>
    intro hp hq
    have d1 := ih hp (.inr (.inr rfl))
    have e : (Part.one k a).deep = 1 + a.deep := rfl
    have e2 : (Part.one k a).size = 1 + a.size := rfl
    have hn : ShowAll 1 15 [sideD k.word] := ShowAll.one (show2 (k := 4) (m := 5) (asc (by decide) (by decide)) (by cases k <;> exact asc (by decide) (by decide)) (by decide))
    exact (ShowAll.app (ShowAll.app (d1.mono (D' := 1 + 2 * (Part.one k a).deep) (by omega) (Nat.le_refl _)) (hn.mono (by omega) (Nat.le_refl _))) ((after_show hq).mono (by omega) (Nat.le_refl _))).mono (Nat.le_refl _) (by omega)
  | @letp r a want x _ ih =>
    intro hp hq
    have d1 := ih hp.2.2.2 hq
    have e : (Part.letp r a).deep = 1 + max r.deep a.deep := rfl
    have e2 : (Part.letp r a).size = 1 + (r.size + a.size) := rfl
    exact (ShowAll.app ((opened_show hw hp.2.2.1 hp.1).mono (D' := 1 + 2 * (Part.letp r a).deep) (by omega) (Nat.le_refl _)) (d1.mono (by omega) (Nat.le_refl _))).mono (Nat.le_refl _) (by omega)
theorem RowsPre.letb {H H' : Hp} {r : Rows} {b : Part} {d : Addr} {dom : List Str} {ws : Str → Way} (h : RowsPre H (.letp r b) d dom ws) (s : Same H H') : RowsPre H' b d dom ws :=
  ⟨h.g.kids b (List.mem_append.mpr (.inr (by simp))), by have := h.z; have e : (Part.letp r b).size = 1 + (r.size + b.size) := rfl; omega, h.n.2.2.2, h.w.same s⟩
theorem RowsPre.same {H H' : Hp} {p : Part} {d : Addr} {dom : List Str} {ws : Str → Way} (h : RowsPre H p d dom ws) (s : Same H H') : RowsPre H' p d dom ws := ⟨h.g, h.z, h.n, h.w.same s⟩
def spLeanDo (m : Nat) : Sp := fun vs H Q _ => ∃ (v : V) (p : Part) (d : Addr) (dom : List Str) (ws : Str → Way) (want : Str), vs = [v, .str want, .ref d] ∧ Tp H v p.data ∧ RowsPre H p d dom ws ∧ p.deep ≤ m ∧ want ≠ "" ∧
  ∀ (l : Addr) (us : List V) (H' : Hp), H l = none → H' l = some (.lst us) → Tps H' us (p.dn ws want) → Same H H' → Q (.ref l) H'
def spLeanSum (m : Nat) : Sp := fun vs H Q _ => ∃ (v : V) (k : K2) (a b : Part) (d : Addr) (dom : List Str) (ws : Str → Way), vs = [v, .ref d] ∧ Tp H v (Part.two k a b).data ∧ RowsPre H (.two k a b) d dom ws ∧ (Part.two k a b).deep ≤ m + 1 ∧
  ∀ (l : Addr) (us : List V) (H' : Hp), H l = none → H' l = some (.lst us) → Tps H' us (a.dn ws "number" ++ b.dn ws "number" ++ [nowD k.word]) → Same H H' → Q (.ref l) H'
def spLeanEnd (m : Nat) : Sp := fun vs H Q _ => ∃ (v : V) (p : Part) (d : Addr) (dom : List Str) (ws : Str → Way), vs = [v, .ref d] ∧ Tp H v p.data ∧ RowsPre H p d dom ws ∧ p.deep ≤ m ∧
  ∀ (l : Addr) (us : List V) (H' : Hp), H l = none → H' l = some (.lst us) → Tps H' us (p.dn ws "") → Same H H' → Q (.ref l) H'
theorem two_plain (k : K2) (a b : Part) : plainWord (Part.two k a b).word := by show plainWord k.word; cases k <;> (unfold plainWord; decide)
theorem one_plain (k : K1) (a : Part) : plainWord (Part.one k a).word := by show plainWord k.word; cases k <;> (unfold plainWord; decide)
theorem whn_plain (a b c : Part) : plainWord (Part.whn a b c).word := by show plainWord "when"; unfold plainWord; decide

/-! ### lean rows, walked -/
abbrev OPSR (K : PySem.W.Frag) : Prop := GTup K (He.ga K "OPERATIONS") [.str "plus", .str "less", .str "times", .str "below"]
abbrev SIDESR (K : PySem.W.Frag) : Prop := GTup K (He.ga K "SIDES") [.str "left", .str "right"]
theorem op_in (k : K2) : inV (.str k.word) [V.str "plus", .str "less", .str "times", .str "below"] = k.isOp := by cases k <;> decide +kernel
theorem after_ne {want : Str} (h : want ≠ "") : afterD want = [doD want] := if_neg h
/-- kinds that are built -/
def Part.isBlt : Part → Bool
  | .num _ => true
  | .name _ => true
  | .fn _ => true
  | .two k _ _ => !k.isOp
  | _ => false
theorem blt_facts {p : Part} (h : p.isBlt = true) : inV (.str p.word) [V.str "plus", .str "less", .str "times", .str "below"] = false ∧ decide (p.word = "when") = false ∧ inV (.str p.word) [V.str "left", .str "right"] = false ∧ decide (p.word = "let") = false ∧ ∀ ws want, p.dn ws want = p.bld ws ++ afterD want := by
  cases p with
  | num n => exact ⟨by show inV (.str "number") _ = false; decide +kernel, by show decide (("number" : Str) = "when") = false; decide +kernel, by show inV (.str "number") _ = false; decide +kernel, by show decide (("number" : Str) = "let") = false; decide +kernel, fun _ _ => rfl⟩
  | name n => exact ⟨by show inV (.str "name") _ = false; decide +kernel, by show decide (("name" : Str) = "when") = false; decide +kernel, by show inV (.str "name") _ = false; decide +kernel, by show decide (("name" : Str) = "let") = false; decide +kernel, fun _ _ => rfl⟩
  | fn n => exact ⟨by show inV (.str "fun") _ = false; decide +kernel, by show decide (("fun" : Str) = "when") = false; decide +kernel, by show inV (.str "fun") _ = false; decide +kernel, by show decide (("fun" : Str) = "let") = false; decide +kernel, fun _ _ => rfl⟩
  | two k a b =>
    have hk : k.isOp = false := by
      have h' : (!k.isOp) = true := h
      cases e : k.isOp
      · rfl
      · rw [e] at h'; cases h'
    refine ⟨(op_in k).trans hk, ?_, ?_, ?_, fun ws want => ?_⟩
    · show decide (k.word = "when") = false
      cases k <;> decide +kernel
    · show inV (.str k.word) _ = false
      cases k <;> decide +kernel
    · show decide (k.word = "let") = false
      cases k <;> decide +kernel
    · rw [Part.dn, if_neg (by rw [hk]; decide)]
  | one k a => cases h
  | whn a b c => cases h
  | letp r a => cases h
  | shut a => cases h
section
variable {K : PySem.W.Frag} {w : World} {m : Nat}
end

/-! ### lean endings and rows -/
section
variable {K : PySem.W.Frag} {w : World} {m : Nat}
end

/-! ### a law's own doings -/
/-- a pen, or none -/
def PenM (H : Hp) (pl : Addr) : Option Addr → Prop
  | none => H pl = some (.lst [])
  | some L => PenAt H pl L
section
variable {H H' : Hp} {pl d b : Addr} {md : Option Addr}
theorem PenM.lst (h : PenM H pl md) : ∃ ys, H pl = some (.lst ys) := by
  cases md with
  | none => exact ⟨_, h⟩
  | some L =>
    obtain ⟨_, _, _, hp, _⟩ := h
    exact ⟨_, hp⟩
theorem PenM.same (h : PenM H pl md) (s : Same H H') : PenM H' pl md := by
  cases md with
  | none => exact s _ _ h
  | some L => exact PenAt.same h s
theorem PenM.ne (h : PenM H pl md) (hd : H d = none) : d ≠ pl := by
  obtain ⟨ys, e⟩ := h.lst
  exact fun z => by rw [z, e] at hd; cases hd
theorem PenM.tk (h : PenM H pl md) (c : Chg pl H H') : Tk H H' := by
  obtain ⟨ys, e⟩ := h.lst
  exact c.tkl e
theorem WaysAt.chg {ys : List V} {dom : List Str} {ws : Str → Way} (h : WaysAt H d dom ws) (c : Chg b H H') (hb : H b = some (.lst ys)) : WaysAt H' d dom ws := by
  obtain ⟨kvs, e, f⟩ := h
  refine ⟨kvs, c _ _ (fun z => by rw [z, hb] at e; cases e) e, fun x hx => ?_⟩
  obtain ⟨u, a, h1, h2, h3⟩ := f x hx
  exact ⟨u, a, h1, h2, c _ _ (fun z => by rw [z, hb] at h3; cases h3) h3⟩
theorem RowsPre.chg {p : Part} {dom : List Str} {ws : Str → Way} (h : RowsPre H p d dom ws) (hP : PenM H pl md) (c : Chg pl H H') : RowsPre H' p d dom ws := by
  obtain ⟨ys, e⟩ := hP.lst
  exact ⟨h.g, h.z, h.n, h.w.chg c e⟩
theorem RowsPre.kid0 {p q : Part} {dom : List Str} {ws : Str → Way} (h : RowsPre H p d dom ws) (hw : plainWord p.word) (hq : q ∈ p.kids) : RowsPre H q d dom ws := h.kid hw hq (.refl _)
end
/-- what a doing promises -/
abbrev DoneK (H : Hp) (pl : Addr) (md : Option Addr) (ws : Str → Way) (p : Part) (want : Str) (Q : VK) : Prop := ∀ (l : Addr) (us : List V) (x : List PyData) (H' : Hp), H l = none → H' l = some (.lst us) → Tps H' us x → DoneR ws p want x → (md = none → x = p.dn ws want) → PenM H' pl md → Chg pl H H' → Q (.ref l) H'
def spDone (m : Nat) : Sp := fun vs H Q _ => ∃ (pl : Addr) (md : Option Addr) (v : V) (p : Part) (d : Addr) (dom : List Str) (ws : Str → Way) (want : Str), vs = [.ref pl, v, .str want, .ref d] ∧ PenM H pl md ∧ Tp H v p.data ∧ RowsPre H p d dom ws ∧ p.deep ≤ m ∧ wanted want ∧ DoneK H pl md ws p want Q
/-- what follows the asking whether a doing is built -/
def t_ldone2 (K : PySem.W.Frag) (w : World) (s_law_opened : Sp) (s_law_done : Sp) : TS :=
  (tSeq (tIfS (tTest (tOp (rEqG K) (tIxG K w (tVar 1) (tC (.int 0))) (tC (.str "let")))) (tRet (tOp (rAddG K) (tCall s_law_opened [] E0 (tCons (tVar 1) (tCons (tVar 3) tNil))) (tCall s_law_done [] E0 (tCons (tVar 0) (tCons (tIxG K w (tVar 1) (tC (.int 2))) (tCons (tVar 2) (tCons (tVar 3) tNil))))))) tNext)
  (tSeq (tIfS (tTest (tOp (rInG K w false) (tIxG K w (tVar 1) (tC (.int 0))) (tTupN (tCons (tC (.str "left")) (tCons (tC (.str "right")) tNil))))) (tRet (tOp (rAddG K) (tOp (rAddG K) (tCall s_law_done [] E0 (tCons (tVar 0) (tCons (tIxG K w (tVar 1) (tC (.int 1))) (tCons (tC (.str "pair")) (tCons (tVar 3) tNil))))) (tLstN (tCons (tTupN (tCons (tC (.str "side")) (tCons (tIxG K w (tVar 1) (tC (.int 0))) tNil))) tNil))) (tVar 4))) tNext)
  (tSeq (tAsg (tCall s_law_done [] E0 (tCons (tVar 0) (tCons (tIxG K w (tVar 1) (tC (.int 1))) (tCons (tC (.str "number")) (tCons (tVar 3) tNil))))) (gName 5))
  (tSeq (tIfS (tTest (tOp (rEqG K) (tIxG K w (tVar 1) (tC (.int 0))) (tC (.str "when")))) (tSeq (tPar 6 7 (tCons (tCall s_law_done [] E0 (tCons (tVar 0) (tCons (tIxG K w (tVar 1) (tC (.int 2))) (tCons (tVar 2) (tCons (tVar 3) tNil))))) (tCons (tCall s_law_done [] E0 (tCons (tVar 0) (tCons (tIxG K w (tVar 1) (tC (.int 3))) (tCons (tVar 2) (tCons (tVar 3) tNil))))) tNil)))
  (tRet (tOp (rAddG K) (tVar 5) (tLstN (tCons (tTupN (tCons (tC (.str "turn")) (tCons (tCB (rTupleG K) (tCons (tVar 6) tNil)) (tCons (tCB (rTupleG K) (tCons (tVar 7) tNil)) tNil)))) tNil))))) tNext)
  (tSeq (tAsg (tOp (rAddG K) (tOp (rAddG K) (tVar 5) (tCall s_law_done [] E0 (tCons (tVar 0) (tCons (tIxG K w (tVar 1) (tC (.int 2))) (tCons (tC (.str "number")) (tCons (tVar 3) tNil)))))) (tLstN (tCons (tTupN (tCons (tC (.str "now")) (tCons (tIxG K w (tVar 1) (tC (.int 0))) tNil))) tNil))) (gName 5))
  (tRet (tOp (rAddG K) (tVar 5) (tSl (rSlG K) (tLstN (tCons (tTupN (tCons (tC (.str "do")) (tCons (tC (.str "pair")) tNil))) tNil)) tNoPart (tPart (tCB rIntG (tCons (tOp (rEqG K) (tVar 2) (tC (.str "pair"))) tNil)))))))))))
theorem cut_after {x : V} {want : Str} (h : wanted want) : cutV [x] none (some (want.length : Int)) = if want = "" then [] else [x] := by
  rcases h with rfl | rfl | rfl <;> rfl
theorem cut_pair {x : V} {k : Bool} : cutV [x] none (some (if k = true then (1 : Int) else 0)) = if k = true then [x] else [] := by
  cases k <;> rfl
theorem wanted.len {want : Str} (h : wanted want) : want.length ≤ 6 := by
  rcases h with rfl | rfl | rfl <;> decide
theorem blt_kind {p : Part} (h : p.isBlt = true) : inV (.str p.word) [V.str "number", V.str "name", V.str "fun", V.str "give", V.str "pair"] = true := by
  cases p with
  | num n => show inV (.str "number") _ = true; decide +kernel
  | name n => show inV (.str "name") _ = true; decide +kernel
  | fn n => show inV (.str "fun") _ = true; decide +kernel
  | two k a b =>
    have h' : (!k.isOp) = true := h
    show inV (.str k.word) _ = true
    clear h
    revert h'
    cases k <;> decide +kernel
  | one k a => cases h
  | whn a b c => cases h
  | letp r a => cases h
  | shut a => cases h
theorem nblt_kind {p : Part} {dom : List Str} (hn : p.inD dom) (h : ¬ p.isBlt = true) : inV (.str p.word) [V.str "number", V.str "name", V.str "fun", V.str "give", V.str "pair"] = false := by
  cases p with
  | num n => exact absurd rfl h
  | name n => exact absurd rfl h
  | fn n => exact absurd rfl h
  | two k a b =>
    have h' : ¬ (!k.isOp) = true := h
    show inV (.str k.word) _ = false
    clear h hn
    revert h'
    cases k <;> decide +kernel
  | one k a =>
    show inV (.str k.word) _ = false
    cases k <;> decide +kernel
  | whn a b c => show inV (.str "when") _ = false; decide +kernel
  | letp r a => show inV (.str "let") _ = false; decide +kernel
  | shut a => exact hn.elim
section
variable {K : PySem.W.Frag} {w : World} {m : Nat} {H : Hp} {D : Ends} {pl d l4 : Addr} {md : Option Addr} {p : Part} {dom : List Str} {ws : Str → Way} {want : Str} {v : V} {us4 : List V}
theorem ldone_rest (hP : PenM H pl md) (t : Tp H v p.data) (h : RowsPre H p d dom ws) (hm : p.deep ≤ m + 1) (hw : wanted want) (hb : ¬ p.isBlt = true) (e4 : H l4 = some (.lst us4)) (h4 : l4 ≠ pl) (tu4 : Tps H us4 (afterD want)) (q : DoneK H pl md ws p want D.rt) :
    t_ldone2 K w (spOpen 11) (spDone m) D [some (.ref pl), some v, some (.str want), some (.ref d), some (.ref l4), none, none, none] H := by
  unfold t_ldone2
  have hz := h.z
  have hd12 := h.g.2
  have h4l : us4.length ≤ 1 := by rw [tu4.length]; exact after_len want
  cases p with
  | shut a => exact h.n.elim
  | num n => exact absurd rfl hb
  | name n => exact absurd rfl hb
  | fn n => exact absurd rfl hb
  | one k a =>
    obtain ⟨pa, u1, u2, rfl, ea, t1, t2⟩ := id (Tp.two t)
    rw [t1.str_inv] at ea
    have e : (Part.one k a).deep = 1 + a.deep := rfl
    have e2 : (Part.one k a).size = 1 + a.size := rfl
    walk_at "gg"
    refine g_F (by cases k <;> decide +kernel) ?_
    walk_at "gg"
    rename_i a5 H5 n5 e5 s5
    refine g_inX (r := true) e5 rfl (by cases k <;> decide +kernel) ?_
    have ea5 := s5 _ _ ea
    have h5 := (h.kid0 (one_plain k a) (q := a) (by simp [Part.kids])).same s5
    walk_at "gg"
    refine ⟨pl, md, u2, a, d, dom, ws, "pair", rfl, hP.same s5, t2.mono (Same.tk s5), h5, by omega, .inr (.inr rfl), fun l us x H6 nl el tu hx hxn hP6 c6 => ?_⟩
    have k6 := (hP.same s5).tk c6
    have ea6 := k6 _ _ ea5
    have e46 := c6 _ _ h4 (s5 _ _ e4)
    walk_at "gg"
    rename_i a7 H7 n7 e7 s7 l8 H8 n8 e8 s8
    have hul : us.length ≤ 1000 := by rw [tu.length]; have := hx.len; omega
    refine g_addL (s8 _ _ (s7 _ _ el)) e8 (by simp only [List.length_singleton]; show _ ≤ 16777216; omega) ?_
    walk_at "gg"
    rename_i l9 H9 n9 e9 s9 l10 H10 n10 e10 s10
    have s69 := s7.trans (s8.trans s9)
    have s610 := s69.trans s10
    have c0 : Chg pl H H6 := (Chg.same s5).trans c6
    have c : Chg pl H H10 := c0.trans (.same s610)
    have z10 := s7.free (s8.free (s9.free n10))
    refine q l10 _ (x ++ [sideD k.word] ++ afterD want) H10 ?_ e10 ?_ (.one hx) (fun z => by rw [hxn z]; rfl) (hP6.same s610) c
    · exact c0.free (hP6.ne z10) z10
    · refine Tps.append (Tps.append (tu.mono (Same.tk s610)) (.one (.tup (s10 _ _ (s9 _ _ (s8 _ _ e7))) (.cons (.str _) (.one (.str _)))))) ?_
      exact tu4.mono (((Same.tk s5).trans k6).trans (Same.tk s610))
  | two k a b =>
    have hk : k.isOp = true := by
      cases e : k.isOp
      · exact absurd (show (!k.isOp) = true from by rw [e]; rfl) hb
      · rfl
    obtain ⟨pa, u1, u2, u3, rfl, ea, t1, t2, t3⟩ := id (Tp.three t)
    rw [t1.str_inv] at ea
    have e : (Part.two k a b).deep = 1 + max a.deep b.deep := rfl
    have e2 : (Part.two k a b).size = 1 + (a.size + b.size) := rfl
    walk_at "gg"
    refine g_F (by cases k <;> decide +kernel) ?_
    walk_at "gg"
    rename_i a5 H5 n5 e5 s5
    refine g_inX (r := false) e5 rfl (by cases k <;> decide +kernel) ?_
    have ea5 := s5 _ _ ea
    have hP5 := hP.same s5
    walk_at "gg"
    refine ⟨pl, md, u2, a, d, dom, ws, "number", rfl, hP5, t2.mono (Same.tk s5), (h.kid0 (two_plain k a b) (by simp [Part.kids])).same s5, by omega, .inr (.inl rfl), fun l us x H6 nl el tu hx hxn hP6 c6 => ?_⟩
    have k6 := hP5.tk c6
    have ea6 := k6 _ _ ea5
    have hl6 : l ≠ pl := hP5.ne nl
    walk_at "gg"
    refine g_F (by cases k <;> decide +kernel) ?_
    walk_at "gg"
    refine ⟨pl, md, u3, b, d, dom, ws, "number", rfl, hP6, t3.mono ((Same.tk s5).trans k6), ((h.kid0 (two_plain k a b) (by simp [Part.kids])).same s5).chg hP5 c6, by omega, .inr (.inl rfl), fun l7 us7 y H7 nl7 el7 tu7 hy hyn hP7 c7 => ?_⟩
    have k7 := hP6.tk c7
    have ea7 := k7 _ _ ea6
    have el' := c7 _ _ hl6 el
    have hul : us.length ≤ 1000 := by rw [tu.length]; have := hx.len; omega
    have hul7 : us7.length ≤ 1000 := by rw [tu7.length]; have := hy.len; omega
    refine g_addL el' el7 (by show _ ≤ 16777216; omega) ?_
    walk_at "gg"
    rename_i l8 H8 n8 e8 s8 a9 H9 n9 e9 s9 l10 H10 n10 e10 s10 l11 H11 n11 e11 s11 a12 H12 n12 e12 s12 l13 H13 n13 e13 s13
    refine g_slL (.of e13) ?_
    rw [cut_pair]
    walk_at "gg"
    rename_i l14 H14 n14 e14 s14
    refine g_addL (s14 _ _ (s13 _ _ (s12 _ _ e11))) e14 (by simp only [List.length_append, List.length_singleton]; split <;> (show _ ≤ 16777216; simp; omega)) ?_
    walk_at "gg"
    rename_i l15 H15 n15 e15 s15
    have s711 : Same H7 H11 := s8.trans (s9.trans (s10.trans s11))
    have s1115 : Same H11 H15 := s12.trans (s13.trans (s14.trans s15))
    have s715 := s711.trans s1115
    have c0 : Chg pl H H7 := ((Chg.same s5).trans c6).trans c7
    have c : Chg pl H H15 := c0.trans (.same s715)
    have z15 := s711.free (s12.free (s13.free (s14.free n15)))
    refine q l15 _ (x ++ y ++ [nowD k.word] ++ pairD want) H15 ?_ e15 ?_ (.op hk hx hy) (fun z => by rw [hxn z, hyn z, Part.dn, if_pos hk]) (hP7.same s715) c
    · exact c0.free (hP7.ne z15) z15
    · refine Tps.append (Tps.append (Tps.append ((tu.mono k7).mono (Same.tk s715)) (tu7.mono (Same.tk s715))) (.one (.tup (s1115 _ _ (s11 _ _ (s10 _ _ e9))) (.cons (.str _) (.one (.str _)))))) ?_
      unfold pairD
      by_cases hp : want = "pair"
      · rw [if_pos hp, if_pos (decide_eq_true hp)]
        exact .one (.tup (s15 _ _ (s14 _ _ (s13 _ _ e12))) (.cons (.str _) (.one (.str _))))
      · rw [if_neg hp, if_neg (by rw [decide_eq_false hp]; decide)]
        exact .nil
  | whn a b c =>
    obtain ⟨pa, ys, rfl, ea, ty⟩ := id t.part
    obtain ⟨u2, ys1, rfl, t2, ty⟩ := Tps.cons_inv (ds := [b.data, c.data]) ty
    obtain ⟨u3, ys2, rfl, t3, ty⟩ := Tps.cons_inv (ds := [c.data]) ty
    obtain ⟨u4, ys3, rfl, t4, ty⟩ := Tps.cons_inv (ds := []) ty
    rw [ty.nil_inv] at ea
    have ea' : H pa = some (.tup [.str "when", u2, u3, u4]) := ea
    clear ea ty
    have e : (Part.whn a b c).deep = 1 + max a.deep (max b.deep c.deep) := rfl
    have e2 : (Part.whn a b c).size = 1 + (a.size + (b.size + c.size)) := rfl
    walk_at "gg"
    rename_i a5 H5 n5 e5 s5
    have ea5 := s5 _ _ ea'
    have hP5 := hP.same s5
    walk_at "gg"
    refine ⟨pl, md, u2, a, d, dom, ws, "number", rfl, hP5, t2.mono (Same.tk s5), (h.kid0 (whn_plain a b c) (by simp [Part.kids])).same s5, by omega, .inr (.inl rfl), fun l us x H6 nl el tu hx hxn hP6 c6 => ?_⟩
    have k6 := hP5.tk c6
    have ea6 := k6 _ _ ea5
    have hl6 : l ≠ pl := hP5.ne nl
    have c56 := (Chg.same (p := pl) s5).trans c6
    walk_at "gg"
    refine ⟨pl, md, u3, b, d, dom, ws, want, rfl, hP6, t3.mono ((Same.tk s5).trans k6), (h.kid0 (whn_plain a b c) (by simp [Part.kids])).chg hP c56, by omega, hw, fun l7 us7 y H7 nl7 el7 tu7 hy hyn hP7 c7 => ?_⟩
    have k7 := hP6.tk c7
    have ea7 := k7 _ _ ea6
    have hl7 : l7 ≠ pl := hP6.ne nl7
    walk_at "gg"
    refine ⟨pl, md, u4, c, d, dom, ws, want, rfl, hP7, t4.mono (((Same.tk s5).trans k6).trans k7), (h.kid0 (whn_plain a b c) (by simp [Part.kids])).chg hP (c56.trans c7), by omega, hw, fun l8 us8 z H8 nl8 el8 tu8 hzd hzn hP8 c8 => ?_⟩
    have k8 := hP7.tk c8
    have el8' := c8 _ _ hl6 (c7 _ _ hl6 el)
    have el7' := c8 _ _ hl7 el7
    walk_at "gg"
    refine ⟨_, _, rfl, ?_⟩
    walk_at "gg"
    rename_i a9 H9 n9 e9 s9 a10 H10 n10 e10 s10 a11 H11 n11 e11 s11 l12 H12 n12 e12 s12
    have hul : us.length ≤ 1000 := by rw [tu.length]; have := hx.len; omega
    have s812 : Same H8 H12 := s9.trans (s10.trans (s11.trans s12))
    refine g_addL (s812 _ _ el8') e12 (by rw [List.length_singleton]; show _ ≤ 16777216; omega) ?_
    walk_at "gg"
    rename_i l13 H13 n13 e13 s13
    have s813 := s812.trans s13
    have c0 : Chg pl H H8 := (c56.trans c7).trans c8
    have cc : Chg pl H H13 := c0.trans (.same s813)
    have z13 := s812.free n13
    refine q l13 _ (x ++ [turnD y z]) H13 ?_ e13 ?_ (.whn hx hy hzd) (fun z => by rw [hxn z, hyn z, hzn z]; rfl) (hP8.same s813) cc
    · exact c0.free (hP8.ne z13) z13
    · refine Tps.append (((tu.mono k7).mono k8).mono (Same.tk s813)) (.one (.tup (s13 _ _ (s12 _ _ e11)) (.cons (.str _) (.cons ?_ (.one ?_)))))
      · exact .tup (s13 _ _ (s12 _ _ (s11 _ _ (s10 _ _ e9)))) ((tu7.mono k8).mono (Same.tk s813))
      · exact .tup (s13 _ _ (s12 _ _ (s11 _ _ e10))) (tu8.mono (Same.tk s813))
  | letp r a =>
    obtain ⟨pa, ra, rs, u, rfl, ea, er, tr, tb⟩ := letTp t
    have e : (Part.letp r a).deep = 1 + max r.deep a.deep := rfl
    have e2 : (Part.letp r a).size = 1 + (r.size + a.size) := rfl
    walk_at "gg"
    refine ⟨_, r, a, d, dom, ws, rfl, t, h, hd12, fun l us H1 nl el tu s1 => ?_⟩
    have ea1 := s1 _ _ ea
    have hP1 := hP.same s1
    walk_at "gg"
    refine ⟨pl, md, u, a, d, dom, ws, want, rfl, hP1, tb.mono (Same.tk s1), h.letb s1, by omega, hw, fun l2 us2 x H2 nl2 el2 tu2 hx hxn hP2 c2 => ?_⟩
    have k2 := hP1.tk c2
    have hl : l ≠ pl := hP.ne nl
    have hul : us.length ≤ 1000 := by rw [tu.length]; have := opened_len ws r; omega
    have hul2 : us2.length ≤ 1000 := by rw [tu2.length]; have := hx.len; omega
    refine g_addL (c2 _ _ hl el) el2 (by show _ ≤ 16777216; omega) ?_
    walk_at "gg"
    rename_i l3 H3 n3 e3 s3
    have c0 : Chg pl H H2 := (Chg.same s1).trans c2
    have c : Chg pl H H3 := c0.trans (.same s3)
    refine q l3 _ (r.opened ws ++ x) H3 (c0.free (hP2.ne n3) n3) e3 ?_ (.letp hx) (fun z => by rw [hxn z]; rfl) (hP2.same s3) c
    exact Tps.append ((tu.mono k2).mono (Same.tk s3)) (tu2.mono (Same.tk s3))
theorem pure_ldone : PureOk 4 (spDone (m + 1)) (t_law_done K w spDraw (spBuild 12) (spOpen 11) (spDone m)) 8 := by
  refine ⟨fun vs H Q E ⟨_, _, _, _, _, _, _, _, e, _⟩ => by rw [e]; rfl, ?_⟩
  rintro vs H Q E ⟨pl, md, v, p, d, dom, ws, want, rfl, hP, t, h, hm, hw, q⟩
  show t_law_done K w _ _ _ _ _ [some (.ref pl), some v, some (.str want), some (.ref d), none, none, none, none] H
  unfold t_law_done
  have hz := h.z
  have hd12 := h.g.2
  have hwl := hw.len
  obtain ⟨pa, xs, rfl, ea, tx⟩ := id t.part
  walk_at "gg"
  rename_i a1 H1 n1 e1 s1 l2 H2 n2 e2 s2
  refine g_lenS (by show _ ≤ 16777216; omega) ?_
  walk_at "gg"
  refine g_slL (.of e2) ?_
  rw [cut_after hw]
  walk_at "gg"
  rename_i l4 H4 n4 e4 s4 a5 H5 n5 e5 s5
  have s04 := s1.trans (s2.trans s4)
  have ea4 := s04 _ _ ea
  have hP4 := hP.same s04
  have tu4 : Tps H4 (if want = "" then [] else [V.ref a1]) (afterD want) := by
    unfold afterD
    split
    · exact .nil
    · exact .one (.tup (s4 _ _ (s2 _ _ e1)) (.cons (.str _) (.one (.str _))))
  have h4 : l4 ≠ pl := fun z => by
    obtain ⟨ys, eP⟩ := (hP.same (s1.trans s2)).lst
    have n4' : _ = none := n4
    rw [z, eP] at n4'
    cases n4'
  have s05 := s04.trans s5
  have hP5 := hP.same s05
  have h5 := h.same s05
  have t5 := t.mono (Same.tk s05)
  have e45 := s5 _ _ e4
  have tu5 := tu4.mono (Same.tk s5)
  -- the built way, from any later heap
  have built : ∀ {H6 : Hp}, PenM H6 pl md → Chg pl H5 H6 → (md = none → p.isBlt = true) →
      spBuild 12 ([.ref pa, .ref d] ++ []) H6 (fun x H1 => tVar 4 [some (.ref pl), some (.ref pa), some (.str want), some (.ref d), some (.ref l4), none, none, none] H1 fun y H2 => rAddG K x y H2 Q) E0 := by
    rintro H6 hP6 c6 hbn
    have k6 := hP5.tk c6
    refine ⟨_, p, d, dom, ws, rfl, t5.mono k6, h5.chg hP5 c6, hd12, fun l us H7 nl el tu s7 => ?_⟩
    have hul : us.length ≤ 1000 := by rw [tu.length]; have := p.bld_len ws; omega
    have hul4 : (if want = "" then [] else [V.ref a1]).length ≤ 1 := by split <;> simp
    walk_at "gg"
    refine g_addL el (s7 _ _ (c6 _ _ h4 e45)) (by show _ ≤ 16777216; omega) ?_
    walk_at "gg"
    rename_i l8 H8 n8 e8 s8
    have c0 : Chg pl H H7 := ((Chg.same s05).trans c6).trans (.same s7)
    have c : Chg pl H H8 := c0.trans (.same s8)
    refine q l8 _ (p.bld ws ++ afterD want) H8 (c0.free ((hP6.same s7).ne n8) n8) e8 ?_ (.bld _ _) (fun z => ((blt_facts (hbn z)).2.2.2.2 ws want).symm) (hP6.same (s7.trans s8)) c
    exact Tps.append (tu.mono (Same.tk s8)) ((tu5.mono k6).mono (Same.tk (s7.trans s8)))
  by_cases hb : p.isBlt = true
  · refine g_inX (r := true) e5 rfl (blt_kind hb) ?_
    walk_at "gg"
    exact built hP5 .refl fun _ => hb
  refine g_inX (r := false) e5 rfl (nblt_kind h.n hb) ?_
  walk_at "gg"
  rename_i l6 H6 n6 e6 s6
  have hP6 := hP5.same s6
  have rest : ∀ {H7 : Hp} {D : Ends}, D.rt = Q → PenM H7 pl md → Chg pl H6 H7 → t_ldone2 K w (spOpen 11) (spDone m) D [some (.ref pl), some (.ref pa), some (.str want), some (.ref d), some (.ref l4), none, none, none] H7 := by
    rintro H7 D rfl hP7 c7
    have k7 := hP6.tk c7
    have c6 : Chg pl H5 H7 := (Chg.same s6).trans c7
    refine ldone_rest hP7 ((t5.mono (Same.tk s6)).mono k7) (h5.chg hP5 c6) hm hw hb (c6 _ _ h4 e45) h4 ((tu5.mono (Same.tk s6)).mono k7) fun l us x H8 nl el tu hx hxn hP8 c8 => ?_
    have c : Chg pl H H7 := (Chg.same s05).trans c6
    exact q l us x H8 (c.free (hP7.ne nl) nl) el tu hx hxn hP8 (c.trans c8)
  cases md with
  | none =>
    refine g_neNil (s6 _ _ hP5) e6 ?_
    refine ⟨_, rfl, g_F rfl (g_F rfl ?_)⟩
    exact rest (D := { nx := fun _ H => Q .non H, rt := Q }) rfl hP6 .refl
  | some L =>
    obtain ⟨ns, i, r, hp, hrest⟩ := id hP6
    refine g_neNil hp e6 ?_
    walk_at "gg"
    refine g_draw hP6 (by decide) (by decide) fun v0 H7 v0lo v0hi hP7 c7 => ?_
    walk_at "gg"
    refine g_ite (fun h0 => ?_) (fun h0 => ?_)
    · walk_at "gg"
      exact built hP7 ((Chg.same s6).trans c7) (fun z => by cases z)
    · refine rest ?_ hP7 c7
      rfl
end

/-! ### a doing stands at one place in one way alone -/
/-- a step that builds -/
def bldStep (d : PyData) : Prop := ∀ w k, d ≠ doD w ∧ d ≠ nowD k ∧ d ≠ sideD k ∧ ∀ y z, d ≠ turnD y z
mutual
theorem Part.bld_ne (ws : Str → Way) {dom : List Str} : ∀ {p : Part}, p.inD dom → p.bld ws ≠ []
  | .num n, _ => by simp [Part.bld]
  | .name x, _ => by simp [Part.bld]
  | .fn f, _ => by simp [Part.bld]
  | .one k a, _ => by simp [Part.bld]
  | .two k a b, _ => by simp [Part.bld]
  | .whn a b c, _ => by simp [Part.bld]
  | .letp r a, _ => by simp [Part.bld]
  | .shut a, h => h.elim
end
/-- the ways of names are things and locals -/
def WsB (ws : Str → Way) : Prop := ∀ x, (ws x).1 = "thing" ∨ (ws x).1 = "local"
theorem one_step {s : Str} (h1 : s ≠ "now") (h2 : s ≠ "do") (h3 : s ≠ "side") (h4 : s ≠ "turn") (ds : List PyData) : bldStep (.tuple (.str s :: ds)) := by
  intro w k
  refine ⟨fun e => ?_, fun e => ?_, fun e => ?_, fun y z e => ?_⟩
  · cases e; exact h2 rfl
  · cases e; exact h1 rfl
  · cases e; exact h3 rfl
  · cases e; exact h4 rfl
mutual
theorem Part.bld_step {ws : Str → Way} (hw : WsB ws) : ∀ (p : Part), ∀ d ∈ p.bld ws, bldStep d
  | .num n, d, h => by
    obtain rfl := List.mem_singleton.mp h
    exact one_step (by decide) (by decide) (by decide) (by decide) _
  | .name x, d, h => by
    obtain rfl := List.mem_singleton.mp h
    rcases hw x with e | e
    · unfold wayD; rw [e]; exact one_step (by decide) (by decide) (by decide) (by decide) _
    · unfold wayD; rw [e]; exact one_step (by decide) (by decide) (by decide) (by decide) _
  | .fn f, d, h => by
    obtain rfl := List.mem_singleton.mp h
    exact one_step (by decide) (by decide) (by decide) (by decide) _
  | .one k a, d, h => by
    rcases List.mem_append.mp h with h | h
    · exact a.bld_step hw d h
    · obtain rfl := List.mem_singleton.mp h
      cases k <;> exact one_step (by decide) (by decide) (by decide) (by decide) _
  | .two k a b, d, h => by
    rcases List.mem_append.mp h with h | h
    · rcases List.mem_append.mp h with h | h
      · exact a.bld_step hw d h
      · exact b.bld_step hw d h
    · obtain rfl := List.mem_singleton.mp h
      cases k <;> exact one_step (by decide) (by decide) (by decide) (by decide) _
  | .whn a b c, d, h => by
    rcases List.mem_append.mp h with h | h
    · rcases List.mem_append.mp h with h | h
      · rcases List.mem_append.mp h with h | h
        · exact a.bld_step hw d h
        · exact b.bld_step hw d h
      · exact c.bld_step hw d h
    · obtain rfl := List.mem_singleton.mp h
      exact one_step (by decide) (by decide) (by decide) (by decide) _
  | .letp r a, d, h => by
    rcases List.mem_append.mp (show d ∈ r.opened ws ++ a.bld ws from h) with h | h
    · rcases List.mem_cons.mp h with rfl | h
      · exact one_step (by decide) (by decide) (by decide) (by decide) _
      · exact r.opn_step hw d h
    · exact a.bld_step hw d h
  | .shut a, d, h => by cases h
theorem Rows.opn_step {ws : Str → Way} (hw : WsB ws) : ∀ (r : Rows), ∀ d ∈ r.opn ws, bldStep d
  | .nil, d, h => by cases h
  | .cons x a r, d, h => by
    rcases List.mem_append.mp h with h | h
    · exact a.bld_step hw d h
    · rcases List.mem_cons.mp h with rfl | h
      · exact one_step (by decide) (by decide) (by decide) (by decide) _
      · exact r.opn_step hw d h
end
theorem word_step1 (k : K1) : bldStep (.tuple [.str k.word]) := by cases k <;> exact one_step (by decide) (by decide) (by decide) (by decide) _
theorem head_step {ws : Str → Way} {dom : List Str} (hw : WsB ws) {p : Part} (hp : p.inD dom) : ∃ z t, p.bld ws = z :: t ∧ bldStep z := by
  cases e : p.bld ws with
  | nil => exact absurd e (p.bld_ne ws hp)
  | cons z t => exact ⟨z, t, rfl, p.bld_step hw z (by rw [e]; simp)⟩
theorem DoneR.let_inv {ws : Str → Way} {r : Rows} {a : Part} {want : Str} {x : List PyData} (h : DoneR ws (.letp r a) want x) : ∃ x', x = r.opened ws ++ x' ∧ DoneR ws a want x' := by
  cases h with
  | bld => exact ⟨a.bld ws ++ afterD want, by rw [Part.bld_let, List.append_assoc], .bld _ _⟩
  | letp h => exact ⟨_, rfl, h⟩
/-- what is done does not begin as what is built and built on -/
theorem DoneR.not_bld {ws : Str → Way} {dom : List Str} (hw : WsB ws) {p : Part} {want : Str} {x : List PyData} (h : DoneR ws p want x) : p.inD dom → want ≠ "" → ∀ {r s : List PyData} {z : PyData}, bldStep z → x ++ r ≠ p.bld ws ++ z :: s := by
  induction h with
  | bld p want =>
    intro hp hq r s z hz e
    rw [after_ne hq, List.append_assoc, List.append_right_inj] at e
    injection e with e _
    exact (hz want want).1 e.symm
  | @op k a b want x y hk _ _ ih1 ih2 =>
    intro hp hq r s z hz e
    obtain ⟨z', t, e2, hz'⟩ := head_step hw hp.2
    refine ih1 hp.1 (by decide) (r := y ++ ([nowD k.word] ++ (pairD want ++ r))) (s := t ++ ([.tuple [.str k.word]] ++ z :: s)) hz' ?_
    simp only [List.append_assoc] at e
    rw [e]
    show a.bld ws ++ b.bld ws ++ [.tuple [.str k.word]] ++ z :: s = _
    rw [e2]
    simp
  | @whn a b c want x y z' _ _ _ ih1 ih2 ih3 =>
    intro hp hq r s z hz e
    obtain ⟨z2, t, e2, hz2⟩ := head_step hw hp.2.1
    refine ih1 hp.1 (by decide) (r := [turnD y z'] ++ r) (s := t ++ (c.bld ws ++ ([.tuple [.str "when"]] ++ z :: s))) hz2 ?_
    rw [List.append_assoc] at e
    rw [e]
    show a.bld ws ++ b.bld ws ++ c.bld ws ++ [.tuple [.str "when"]] ++ z :: s = _
    rw [e2]
    simp
  | @one k a want x _ ih =>
    intro hp hq r s z hz e
    refine ih hp (by decide) (r := [sideD k.word] ++ (afterD want ++ r)) (s := z :: s) (word_step1 k) ?_
    simp only [List.append_assoc] at e
    rw [e]
    show a.bld ws ++ [.tuple [.str k.word]] ++ z :: s = _
    simp
  | @letp r' a want x _ ih =>
    intro hp hq r s z hz e
    rw [Part.bld_let, List.append_assoc, List.append_assoc, List.append_right_inj] at e
    exact ih hp.2.2.2 hq hz e
theorem DoneR.uniq {ws : Str → Way} {dom : List Str} (hw : WsB ws) : ∀ {p : Part}, p.inD dom → ∀ {want : Str} {x y : List PyData}, DoneR ws p want x → DoneR ws p want y → ∀ {r s : List PyData}, x ++ r = y ++ s → x = y
  | .num n, _, want, x, y, h1, h2, r, s, _ => by cases h1; cases h2; rfl
  | .name n, _, want, x, y, h1, h2, r, s, _ => by cases h1; cases h2; rfl
  | .fn n, _, want, x, y, h1, h2, r, s, _ => by cases h1; cases h2; rfl
  | .shut a, h, _, _, _, _, _, _, _, _ => h.elim
  | .letp r' a, hp, want, x, y, h1, h2, r, s, e => by
    obtain ⟨x', rfl, g1⟩ := h1.let_inv
    obtain ⟨y', rfl, g2⟩ := h2.let_inv
    rw [List.append_assoc, List.append_assoc, List.append_right_inj] at e
    rw [DoneR.uniq hw hp.2.2.2 g1 g2 e]
  | .one k a, hp, want, x, y, h1, h2, r, s, e => by
    have clash : ∀ {x : List PyData} {r s : List PyData}, DoneR ws a "pair" x → x ++ [sideD k.word] ++ afterD want ++ r = (Part.one k a).bld ws ++ afterD want ++ s → False := fun {x r s} hx e => by
      refine hx.not_bld hw hp (by decide) (r := [sideD k.word] ++ (afterD want ++ r)) (s := afterD want ++ s) (word_step1 k) ?_
      simp only [List.append_assoc] at e
      rw [e]
      show (a.bld ws ++ [.tuple [.str k.word]]) ++ _ = _
      simp
    cases h1 with
    | bld =>
      cases h2 with
      | bld => rfl
      | one g => exact (clash g e.symm).elim
    | one f =>
      cases h2 with
      | bld => exact (clash f e).elim
      | one g =>
        simp only [List.append_assoc] at e
        rw [DoneR.uniq hw (p := a) hp f g e]
  | .two k a b, hp, want, x, y, h1, h2, r, s, e => by
    have clash : ∀ {x y : List PyData} {r s : List PyData}, DoneR ws a "number" x → x ++ y ++ [nowD k.word] ++ pairD want ++ r = (Part.two k a b).bld ws ++ afterD want ++ s → False := fun {x y r s} hx e => by
      obtain ⟨z', t, e2, hz'⟩ := head_step hw hp.2
      refine hx.not_bld hw hp.1 (by decide) (r := y ++ ([nowD k.word] ++ (pairD want ++ r))) (s := t ++ ([.tuple [.str k.word]] ++ (afterD want ++ s))) hz' ?_
      simp only [List.append_assoc] at e
      rw [e]
      show (a.bld ws ++ b.bld ws ++ [.tuple [.str k.word]]) ++ _ = _
      rw [e2]
      simp
    cases h1 with
    | bld =>
      cases h2 with
      | bld => rfl
      | op _ g _ => exact (clash g e.symm).elim
    | @op _ _ _ _ x1 y1 _ f1 f2 =>
      cases h2 with
      | bld => exact (clash f1 e).elim
      | @op _ _ _ _ x2 y2 _ g1 g2 =>
        simp only [List.append_assoc] at e
        obtain rfl := DoneR.uniq hw hp.1 f1 g1 e
        rw [List.append_right_inj] at e
        rw [DoneR.uniq hw hp.2 f2 g2 e]
  | .whn a b c, hp, want, x, y, h1, h2, r, s, e => by
    have clash : ∀ {x : List PyData} {t : PyData} {r s : List PyData}, DoneR ws a "number" x → x ++ [t] ++ r = (Part.whn a b c).bld ws ++ afterD want ++ s → False := fun {x t' r s} hx e => by
      obtain ⟨z', t, e2, hz'⟩ := head_step hw hp.2.1
      refine hx.not_bld hw hp.1 (by decide) (r := [t'] ++ r) (s := t ++ (c.bld ws ++ ([.tuple [.str "when"]] ++ (afterD want ++ s)))) hz' ?_
      simp only [List.append_assoc] at e
      rw [e]
      show (a.bld ws ++ b.bld ws ++ c.bld ws ++ [.tuple [.str "when"]]) ++ _ = _
      rw [e2]
      simp
    cases h1 with
    | bld =>
      cases h2 with
      | bld => rfl
      | whn g _ _ => exact (clash g e.symm).elim
    | @whn _ _ _ _ x1 y1 z1 f1 f2 f3 =>
      cases h2 with
      | bld => exact (clash f1 e).elim
      | @whn _ _ _ _ x2 y2 z2 g1 g2 g3 =>
        simp only [List.append_assoc] at e
        obtain rfl := DoneR.uniq hw hp.1 f1 g1 e
        rw [List.append_right_inj] at e
        injection e with e _
        rw [e]
/-- where a doing that begins at a place ends -/
def EndAt (ws : Str → Way) (R : List PyData) (p : Part) (want : Str) (i j : Nat) : Prop := ∃ x, DoneR ws p want x ∧ x <+: R.drop i ∧ j = i + x.length
theorem EndAt.one {ws : Str → Way} {dom : List Str} {R : List PyData} {p : Part} {want : Str} {i j j' : Nat} (hw : WsB ws) (hp : p.inD dom) (h : EndAt ws R p want i j) (h' : EndAt ws R p want i j') : j = j' := by
  obtain ⟨x, h1, ⟨r, e1⟩, rfl⟩ := h
  obtain ⟨y, h2, ⟨s, e2⟩, rfl⟩ := h'
  rw [DoneR.uniq hw hp h1 h2 (e1.trans e2.symm)]
/-- so a list of them holds one at most -/
theorem ends_one {es : List Nat} (hd : es.Nodup) (h : ∀ j ∈ es, ∀ j' ∈ es, j = j') : es.length ≤ 1 := by
  match es, hd, h with
  | [], _, _ => exact Nat.zero_le _
  | [_], _, _ => exact Nat.le_refl _
  | a :: b :: l, hd, h =>
    have := h a (by simp) b (by simp)
    rw [List.nodup_cons] at hd
    exact absurd (by rw [this]; simp) hd.1
theorem pre_app {R x y : List PyData} {i : Nat} : (x ++ y) <+: R.drop i ↔ x <+: R.drop i ∧ y <+: R.drop (i + x.length) := by
  constructor
  · rintro ⟨t, e⟩
    refine ⟨⟨y ++ t, by rw [← e, List.append_assoc]⟩, t, ?_⟩
    rw [← List.drop_drop, ← e, List.append_assoc, List.drop_left]
  · rintro ⟨⟨t, e⟩, s, e2⟩
    refine ⟨s, ?_⟩
    rw [← List.drop_drop, ← e, List.drop_left] at e2
    rw [List.append_assoc, e2, e]
theorem pre_take {R x : List PyData} {i : Nat} : x <+: R.drop i ↔ (R.drop i).take x.length = x := by
  rw [List.prefix_iff_eq_take]
  exact ⟨fun h => h.symm, fun h => h.symm⟩
/-- where steps stand -/
def StandAt (R ds : List PyData) (i j : Nat) : Prop := ds <+: R.drop i ∧ j = i + ds.length
theorem end_op {ws : Str → Way} {R : List PyData} {k : K2} {a b : Part} {want : Str} {i j : Nat} (hk : k.isOp = true) : EndAt ws R (.two k a b) want i j ↔ StandAt R ((Part.two k a b).bld ws ++ afterD want) i j ∨
    ∃ i1, EndAt ws R a "number" i i1 ∧ ∃ i2, EndAt ws R b "number" i1 i2 ∧ ∃ i3, StandAt R [nowD k.word] i2 i3 ∧ StandAt R (pairD want) i3 j := by
  constructor
  · rintro ⟨x, h, hx, rfl⟩
    cases h with
    | bld => exact .inl ⟨hx, rfl⟩
    | @op _ _ _ _ x y _ h1 h2 =>
      obtain ⟨hx, h4⟩ := pre_app.mp hx
      obtain ⟨hx, h3⟩ := pre_app.mp hx
      obtain ⟨hx, hy⟩ := pre_app.mp hx
      rw [List.length_append, ← Nat.add_assoc] at h3
      rw [List.length_append, List.length_append, ← Nat.add_assoc, ← Nat.add_assoc] at h4
      exact .inr ⟨_, ⟨x, h1, hx, rfl⟩, _, ⟨y, h2, hy, rfl⟩, _, ⟨h3, rfl⟩, h4, by simp only [List.length_append]; omega⟩
  · rintro (⟨h, rfl⟩ | ⟨_, ⟨x, h1, hx, rfl⟩, _, ⟨y, h2, hy, rfl⟩, _, ⟨h3, rfl⟩, h4, rfl⟩)
    · exact ⟨_, .bld _ _, h, rfl⟩
    · refine ⟨_, .op hk h1 h2, ?_, by simp only [List.length_append]; omega⟩
      refine pre_app.mpr ⟨pre_app.mpr ⟨pre_app.mpr ⟨hx, hy⟩, by rw [List.length_append, ← Nat.add_assoc]; exact h3⟩, ?_⟩
      rw [List.length_append, List.length_append, ← Nat.add_assoc, ← Nat.add_assoc]
      exact h4
theorem end_one {ws : Str → Way} {R : List PyData} {k : K1} {a : Part} {want : Str} {i j : Nat} : EndAt ws R (.one k a) want i j ↔ StandAt R ((Part.one k a).bld ws ++ afterD want) i j ∨
    ∃ i1, EndAt ws R a "pair" i i1 ∧ ∃ i2, StandAt R [sideD k.word] i1 i2 ∧ StandAt R (afterD want) i2 j := by
  constructor
  · rintro ⟨x, h, hx, rfl⟩
    cases h with
    | bld => exact .inl ⟨hx, rfl⟩
    | @one _ _ _ x h1 =>
      obtain ⟨hx, h4⟩ := pre_app.mp hx
      obtain ⟨hx, h3⟩ := pre_app.mp hx
      rw [List.length_append, ← Nat.add_assoc] at h4
      exact .inr ⟨_, ⟨x, h1, hx, rfl⟩, _, ⟨h3, rfl⟩, h4, by simp only [List.length_append]; omega⟩
  · rintro (⟨h, rfl⟩ | ⟨_, ⟨x, h1, hx, rfl⟩, _, ⟨h3, rfl⟩, h4, rfl⟩)
    · exact ⟨_, .bld _ _, h, rfl⟩
    · refine ⟨_, .one h1, ?_, by simp only [List.length_append]; omega⟩
      refine pre_app.mpr ⟨pre_app.mpr ⟨hx, h3⟩, ?_⟩
      rw [List.length_append, ← Nat.add_assoc]
      exact h4
theorem end_when {ws : Str → Way} {R : List PyData} {a b c : Part} {want : Str} {i j : Nat} : EndAt ws R (.whn a b c) want i j ↔ StandAt R ((Part.whn a b c).bld ws ++ afterD want) i j ∨
    ∃ i1, EndAt ws R a "number" i i1 ∧ j = i1 + 1 ∧ ∃ y z, R[i1]? = some (turnD y z) ∧ DoneR ws b want y ∧ DoneR ws c want z := by
  have one : ∀ {i : Nat} {d : PyData}, [d] <+: R.drop i ↔ R[i]? = some d := fun {i d} => by
    constructor
    · rintro ⟨t, e⟩
      have := congrArg (·[0]?) e
      simp only [List.getElem?_drop] at this
      exact this.symm
    · intro h
      obtain ⟨hl, h⟩ := List.getElem?_eq_some_iff.mp h
      exact ⟨R.drop (i + 1), by rw [← h]; exact (List.drop_eq_getElem_cons hl).symm⟩
  constructor
  · rintro ⟨x, h, hx, rfl⟩
    cases h with
    | bld => exact .inl ⟨hx, rfl⟩
    | @whn _ _ _ _ x y z h1 h2 h3 =>
      obtain ⟨hx, h4⟩ := pre_app.mp hx
      exact .inr ⟨_, ⟨x, h1, hx, rfl⟩, by simp only [List.length_append, List.length_singleton]; omega, y, z, one.mp h4, h2, h3⟩
  · rintro (⟨h, rfl⟩ | ⟨_, ⟨x, h1, hx, rfl⟩, rfl, y, z, h4, h2, h3⟩)
    · exact ⟨_, .bld _ _, h, rfl⟩
    · exact ⟨_, .whn h1 h2 h3, pre_app.mpr ⟨hx, one.mpr h4⟩, by simp only [List.length_append, List.length_singleton]; omega⟩
theorem end_let {ws : Str → Way} {R : List PyData} {r : Rows} {a : Part} {want : Str} {i j : Nat} : EndAt ws R (.letp r a) want i j ↔ ∃ i1, StandAt R (r.opened ws) i i1 ∧ EndAt ws R a want i1 j := by
  constructor
  · rintro ⟨x, h, hx, rfl⟩
    obtain ⟨x', rfl, h'⟩ := h.let_inv
    obtain ⟨h1, h2⟩ := pre_app.mp hx
    exact ⟨_, ⟨h1, rfl⟩, x', h', h2, by rw [List.length_append]; omega⟩
  · rintro ⟨_, ⟨h1, rfl⟩, x', h', h2, rfl⟩
    exact ⟨_, .letp h', pre_app.mpr ⟨h1, h2⟩, by rw [List.length_append]; omega⟩
theorem end_blt {ws : Str → Way} {R : List PyData} {p : Part} {want : Str} {i j : Nat} (hb : p.isBlt = true) : EndAt ws R p want i j ↔ StandAt R (p.bld ws ++ afterD want) i j := by
  constructor
  · rintro ⟨x, h, hx, rfl⟩
    cases h with
    | bld => exact ⟨hx, rfl⟩
    | op hk _ _ => exact absurd hb (by show ¬ (!_) = true; rw [hk]; decide)
    | whn => cases hb
    | one => cases hb
    | letp => cases hb
  · rintro ⟨h, rfl⟩
    exact ⟨_, .bld _ _, h, rfl⟩
/-- from the first to the last -/
theorem end_whole {ws : Str → Way} {R : List PyData} {p : Part} {want : Str} : EndAt ws R p want 0 R.length ↔ DoneR ws p want R := by
  constructor
  · rintro ⟨x, h, ⟨t, e⟩, hl⟩
    rw [List.drop_zero] at e
    have : t = [] := by
      have := congrArg List.length e
      rw [List.length_append] at this
      exact List.length_eq_zero_iff.mp (by omega)
    rw [this, List.append_nil] at e
    rwa [e] at h
  · intro h
    exact ⟨R, h, by rw [List.drop_zero]; exact ⟨[], List.append_nil _⟩, (Nat.zero_add _).symm⟩

/-! ### anything that may stand where rows are awaited: none, truths, numbers, texts, tuples; lists are not looked into -/
mutual
inductive Jq (H : Hp) : V → PyData → Prop
  | non : Jq H .non .none
  | bl (b : Bool) : Jq H (.bl b) (.bool b)
  | int (i : Int) : Jq H (.int i) (.int i)
  | str (x : Str) : Jq H (.str x) (.str x)
  | tup {a : Addr} {xs : List V} {ds : List PyData} : H a = some (.tup xs) → Jqs H xs ds → Jq H (.ref a) (.tuple ds)
  | lst {a : Addr} {xs : List V} {ds : List PyData} : H a = some (.lst xs) → Jq H (.ref a) (.list ds)
inductive Jqs (H : Hp) : List V → List PyData → Prop
  | nil : Jqs H [] []
  | cons {v : V} {vs : List V} {d : PyData} {ds : List PyData} : Jq H v d → Jqs H vs ds → Jqs H (v :: vs) (d :: ds)
end
/-- the tuples stay, the lists stay lists -/
structure Tj (H H' : Hp) : Prop where
  tup : Tk H H'
  lst : ∀ a xs, H a = some (.lst xs) → ∃ ys, H' a = some (.lst ys)
theorem Tj.trans {H H1 H2 : Hp} (a : Tj H H1) (b : Tj H1 H2) : Tj H H2 := ⟨a.tup.trans b.tup, fun c xs e => by obtain ⟨ys, h⟩ := a.lst c xs e; exact b.lst c ys h⟩
theorem Same.tj {H H' : Hp} (s : Same H H') : Tj H H' := ⟨Same.tk s, fun a xs e => ⟨xs, s _ _ e⟩⟩
theorem Chg.tj {H H' : Hp} {a : Addr} {ys zs : List V} (c : Chg a H H') (h : H a = some (.lst ys)) (h' : H' a = some (.lst zs)) : Tj H H' := ⟨c.tkl h, fun b xs e => by
  by_cases hb : b = a
  · exact ⟨zs, hb ▸ h'⟩
  · exact ⟨xs, c b _ hb e⟩⟩
mutual
theorem Jq.mono {H H' : Hp} (k : Tj H H') : ∀ {d : PyData} {v : V}, Jq H v d → Jq H' v d
  | .none, _, h => by cases h; exact .non
  | .bool b, _, h => by cases h; exact .bl b
  | .int i, _, h => by cases h; exact .int i
  | .str x, _, h => by cases h; exact .str x
  | .tuple ds, _, h => by
    cases h with
    | tup e r => exact .tup (k.tup _ _ e) (Jqs.mono k r)
  | .list ds, _, h => by
    cases h with
    | lst e => obtain ⟨ys, e'⟩ := k.lst _ _ e; exact .lst e'
  | .dict ds, _, h => by cases h
theorem Jqs.mono {H H' : Hp} (k : Tj H H') : ∀ {ds : List PyData} {vs : List V}, Jqs H vs ds → Jqs H' vs ds
  | [], _, h => by cases h; exact .nil
  | d :: ds, _, h => by
    cases h with
    | cons a b => exact .cons (Jq.mono k a) (Jqs.mono k b)
end
mutual
theorem Tp.jq {H : Hp} : ∀ {d : PyData} {v : V}, Tp H v d → Jq H v d
  | .none, _, h => by cases h; exact .non
  | .bool b, _, h => by cases h; exact .bl b
  | .int i, _, h => by cases h; exact .int i
  | .str x, _, h => by cases h; exact .str x
  | .tuple ds, _, h => by
    cases h with
    | tup e r => exact .tup e (Tps.jqs r)
  | .list ds, _, h => by cases h
  | .dict ds, _, h => by cases h
theorem Tps.jqs {H : Hp} : ∀ {ds : List PyData} {vs : List V}, Tps H vs ds → Jqs H vs ds
  | [], _, h => by cases h; exact .nil
  | d :: ds, _, h => by
    cases h with
    | cons a b => exact .cons (Tp.jq a) (Tps.jqs b)
end
theorem Jqs.length {H : Hp} : ∀ {vs : List V} {ds : List PyData}, Jqs H vs ds → vs.length = ds.length
  | _, _, .nil => rfl
  | _, _, .cons _ h => congrArg (· + 1) h.length
theorem Jqs.at {H : Hp} : ∀ {vs : List V} {ds : List PyData}, Jqs H vs ds → ∀ {i : Nat} {v : V}, vs[i]? = some v → ∃ d, ds[i]? = some d ∧ Jq H v d
  | _, _, .nil, i, v, e => by simp at e
  | _, _, .cons a r, 0, v, e => by cases e; exact ⟨_, rfl, a⟩
  | _, _, .cons a r, i + 1, v, e => r.at (i := i) e
theorem Jqs.drop {H : Hp} : ∀ {vs : List V} {ds : List PyData} (n : Nat), Jqs H vs ds → Jqs H (vs.drop n) (ds.drop n)
  | _, _, 0, h => h
  | _, _, n + 1, .nil => by simp; exact .nil
  | _, _, n + 1, .cons _ h => by simpa using Jqs.drop n h
theorem Jqs.take {H : Hp} : ∀ {vs : List V} {ds : List PyData} (n : Nat), Jqs H vs ds → Jqs H (vs.take n) (ds.take n)
  | _, _, 0, h => by simp; exact .nil
  | _, _, n + 1, .nil => by simp; exact .nil
  | _, _, n + 1, .cons a h => by simpa using Jqs.cons a (Jqs.take n h)
/-- what is due: texts, numbers, tuples of such, fewer than n deep -/
inductive Due : Nat → PyData → Prop
  | str (n : Nat) (s : Str) : Due (n + 1) (.str s)
  | int (n : Nat) (i : Int) : Due (n + 1) (.int i)
  | tup {n : Nat} {ds : List PyData} : ds.length ≤ 1000 → (∀ d ∈ ds, Due n d) → Due (n + 1) (.tuple ds)
theorem Due.up {n : Nat} {d : PyData} (h : Due n d) : Due (n + 1) d := by
  induction h with
  | str n s => exact .str _ s
  | int n i => exact .int _ i
  | tup hl _ ih => exact .tup hl ih
def spAlike (n : Nat) : Sp := fun vs H Q _ => ∃ (v u : V) (d e : PyData), vs = [v, u] ∧ Jq H v d ∧ Tp H u e ∧ Due n e ∧ ∀ (b : Bool) (H' : Hp), (b = true ↔ d = e) → Same H H' → Q (.bl b) H'
/-- the type of anything -/
def tyD : PyData → String
  | .none => "NoneType"
  | .bool _ => "bool"
  | .int _ => "int"
  | .str _ => "str"
  | .tuple _ => "tuple"
  | .list _ => "list"
  | .dict _ => "dict"
theorem Jq.ty {K : PySem.W.Frag} {H : Hp} {v : V} {d : PyData} (h : Jq H v d) : TyOf K H v (.type (tyD d)) := by
  cases h with
  | non => exact .non
  | bl b => exact .bl b
  | int i => exact .int i
  | str x => exact .str x
  | tup e _ => exact .tup e
  | lst e => exact .lst e
def isTupD : PyData → Bool
  | .tuple _ => true
  | _ => false
def isStrD : PyData → Bool
  | .str _ => true
  | _ => false
def isIntD : PyData → Bool
  | .int _ => true
  | .bool _ => true
  | _ => false
def isBoolD : PyData → Bool
  | .bool _ => true
  | _ => false
theorem kit_tuple {H : Hp} {v : V} {d : PyData} (h : Jq H v d) : kitB (tyD d) "tuple" = some (isTupD d) := by
  cases h <;> (simp only [tyD, isTupD]; decide +kernel)
theorem kit_str {H : Hp} {v : V} {d : PyData} (h : Jq H v d) : kitB (tyD d) "str" = some (isStrD d) := by
  cases h <;> (simp only [tyD, isStrD]; decide +kernel)
theorem kit_int {H : Hp} {v : V} {d : PyData} (h : Jq H v d) : kitB (tyD d) "int" = some (isIntD d) := by
  cases h <;> (simp only [tyD, isIntD]; decide +kernel)
theorem all_alike {ds es : List PyData} {bs : List Bool} (h1 : ds.length = es.length) (h2 : bs.length = ds.length) (h : ∀ (i : Nat) (c : Bool), bs[i]? = some c → ∀ d e, ds[i]? = some d → es[i]? = some e → (c = true ↔ d = e)) : bs.all id = true ↔ ds = es := by
  rw [List.all_eq_true]
  constructor
  · intro ha
    refine List.ext_getElem h1 fun i hi hj => ?_
    have hb : i < bs.length := by omega
    exact (h i bs[i] (List.getElem?_eq_getElem hb) _ _ (List.getElem?_eq_getElem hi) (List.getElem?_eq_getElem hj)).mp (ha _ (List.getElem_mem hb))
  · rintro rfl c hc
    obtain ⟨i, hi, rfl⟩ := List.getElem_of_mem hc
    exact (h i _ (List.getElem?_eq_getElem hi) _ _ (List.getElem?_eq_getElem (by omega)) (List.getElem?_eq_getElem (by omega))).mpr rfl
theorem pure_alike {K : PySem.W.Frag} {w : World} {m : Nat} : PureOk 2 (spAlike (m + 1)) (t_is_alike K w (spAlike m)) 4 := by
  refine ⟨fun vs H Q E ⟨_, _, _, _, e, _⟩ => by rw [e]; rfl, ?_⟩
  rintro vs H Q E ⟨v, u, d, e, rfl, hv, hu, hd, q⟩
  show t_is_alike K w _ _ [some v, some u, none, none] H
  unfold t_is_alike
  cases hd with
  | str _ s =>
    cases hu
    walk_at "gg"
    refine g_isi (r := false) (.str _) (by decide +kernel) ?_
    walk_at "gg"
    refine g_isi (r := true) (.str _) (by decide +kernel) ?_
    walk_at "gg"
    refine g_isi hv.ty (kit_str hv) ?_
    walk_at "gg"
    cases hv with
    | str x =>
      refine g_T rfl ?_
      walk_at "gg"
      exact q _ H (by rw [decide_eq_true_eq]; exact ⟨fun h => by rw [h], fun h => by cases h; rfl⟩) (.refl _)
    | non => exact g_F rfl (q false H (by simp) (.refl _))
    | bl b => exact g_F rfl (q false H (by simp) (.refl _))
    | int i => exact g_F rfl (q false H (by simp) (.refl _))
    | tup e r => exact g_F rfl (q false H (by simp) (.refl _))
    | lst e => exact g_F rfl (q false H (by simp) (.refl _))
  | int _ i =>
    cases hu
    walk_at "gg"
    refine g_isi (r := false) (.int _) (by decide +kernel) ?_
    walk_at "gg"
    refine g_isi (r := false) (.int _) (by decide +kernel) ?_
    walk_at "gg"
    refine g_isi hv.ty (kit_int hv) ?_
    walk_at "gg"
    cases hv with
    | str x => exact g_F rfl (q false H (by simp) (.refl _))
    | non => exact g_F rfl (q false H (by simp) (.refl _))
    | bl b =>
      refine g_T rfl ?_
      walk_at "gg"
      refine g_isi (r := true) (.bl b) (by decide +kernel) ?_
      walk_at "gg"
      exact q false H (by simp) (.refl _)
    | int i =>
      refine g_T rfl ?_
      walk_at "gg"
      refine g_isi (r := false) (.int _) (by decide +kernel) ?_
      walk_at "gg"
      exact q _ H (by rw [decide_eq_true_eq]; exact ⟨fun h => by rw [h], fun h => by cases h; rfl⟩) (.refl _)
    | tup e r => exact g_F rfl (q false H (by simp) (.refl _))
    | lst e => exact g_F rfl (q false H (by simp) (.refl _))
  | @tup _ es hl hds =>
    cases hu with
    | @tup b ys _ eb tys =>
    walk_at "gg"
    refine g_isi (r := true) (.tup eb) (by decide +kernel) ?_
    walk_at "gg"
    refine g_isi hv.ty (kit_tuple hv) ?_
    walk_at "gg"
    cases hv with
    | str x => exact g_T rfl (by walk_at "gg"; exact q false H (by simp) (.refl _))
    | non => exact g_T rfl (by walk_at "gg"; exact q false H (by simp) (.refl _))
    | bl b => exact g_T rfl (by walk_at "gg"; exact q false H (by simp) (.refl _))
    | int i => exact g_T rfl (by walk_at "gg"; exact q false H (by simp) (.refl _))
    | lst e => exact g_T rfl (by walk_at "gg"; exact q false H (by simp) (.refl _))
    | @tup a xs ds ea txs =>
      refine g_F rfl ?_
      walk_at "gg"
      have l1 := txs.length
      have l2 := tys.length
      by_cases hn : xs.length = ys.length
      · rw [show (!decide ((xs.length : Int) = ys.length)) = false from by simp [hn]]
        walk_at "gg"
        refine ⟨.tup, .tup, _, _, _, _, rfl, .of ea, .of eb, ?_⟩
        intro D hD
        refine lc_any xs.length (fun i acc H' => ∃ bs : List Bool, acc = bs.map V.bl ∧ bs.length = i ∧ (∀ (k : Nat) (c : Bool), bs[k]? = some c → ∀ d e, ds[k]? = some d → es[k]? = some e → (c = true ↔ d = e)) ∧ Same H H') hD
          (fun H' _ s => ⟨[], rfl, rfl, by simp, s⟩)
          (fun i acc H' hi ⟨_, _, _, _, s⟩ => ⟨xs, ys, _, _, .of (s _ _ ea), .of (s _ _ eb), List.getElem?_eq_getElem hi, List.getElem?_eq_getElem (by omega)⟩)
          (fun acc H' ⟨_, _, _, _, s⟩ => ⟨xs, ys, .of (s _ _ ea), .of (s _ _ eb), .inl (Nat.le_refl _)⟩) ?_ ?_
        · rintro i x acc H4 _ hi hla ⟨bs, rfl, hbl, hbs, s4⟩ hd4 ⟨T, x1, y1, rfl, nT, rfl, hx, hy⟩
          have hx1 := hx _ (.of (s4 _ _ ea))
          have hy1 := hy _ (.of (s4 _ _ eb))
          obtain ⟨d1, hd1, tx1⟩ := txs.at hx1
          obtain ⟨e1, he1, ty1⟩ := tys.get hy1
          have s5 : Same H4 (upd H4 T (.tup [x1, y1])) := same_upd nT
          have eT : (upd H4 T (.tup [x1, y1])) T = some (.tup [x1, y1]) := upd_same
          generalize (upd H4 T (.tup [x1, y1])) = H5 at s5 eT
          refine g_un2 eT ?_
          refine ⟨rfl, ?_⟩
          walk_at "gg"
          refine ⟨_, _, d1, e1, rfl, tx1.mono (Same.tj (s4.trans s5)), ty1.mono (Same.tk (s4.trans s5)), hds _ (List.mem_of_getElem? he1), fun c H6 hc s6 => ?_⟩
          refine lc_step (s6 _ _ (s5 _ _ hd4)) hla (by show _ < 16777216; omega) fun H7 e7 c7 => ?_
          refine ⟨bs ++ [c], by simp, by simp [hbl], fun k c' hk d e hdk hek => ?_, fun b o eo => c7 b o (ne_of_none eo hD) (s6 b o (s5 b o (s4 b o eo)))⟩
          by_cases hkl : k < bs.length
          · rw [List.getElem?_append_left hkl] at hk
            exact hbs k c' hk d e hdk hek
          · have hk2 : k < (bs ++ [c]).length := (List.getElem?_eq_some_iff.mp hk).1
            rw [List.length_append, List.length_singleton] at hk2
            have : k = bs.length := by omega
            subst this
            rw [List.getElem?_append_right (Nat.le_refl _), Nat.sub_self] at hk
            cases hk
            rw [hbl] at hdk hek
            rw [hd1] at hdk
            rw [he1] at hek
            cases hdk
            cases hek
            exact hc
        · rintro acc H4 hd4 ⟨bs, rfl, hbl, hbs, s4⟩
          walk_at "gg"
          refine ⟨D, bs, rfl, .of hd4, ?_⟩
          refine q _ H4 ?_ s4
          rw [all_alike (by omega) (by omega) hbs]
          exact ⟨fun h => by rw [h], fun h => by cases h; rfl⟩
      · rw [show (!decide ((xs.length : Int) = ys.length)) = true from by simp; omega]
        walk_at "gg"
        exact q false H ⟨fun h => (by cases h), fun h => (by cases h; exact absurd (l1.trans l2.symm) hn)⟩ (.refl _)

/-! ### steps that stand behind some ends -/
theorem cut_at {xs : List V} {i n : Nat} : cutV xs (some (i : Int)) (some ((i : Int) + (n : Nat))) = (xs.drop i).take n := by
  unfold cutV
  rw [HT.sIx_nat, show ((i : Int) + (n : Nat)) = ((i + n : Nat) : Int) from by omega, HT.sIx_nat]
  by_cases h : i ≤ xs.length
  · rw [Nat.min_eq_left h]
    by_cases h2 : i + n ≤ xs.length
    · rw [Nat.min_eq_left h2, Nat.add_sub_cancel_left]
    · rw [Nat.min_eq_right (by omega), List.take_of_length_le (by simp), List.take_of_length_le (by rw [List.length_drop]; omega)]
  · rw [Nat.min_eq_right (by omega), Nat.min_eq_right (by omega), List.drop_eq_nil_of_le (Nat.le_refl _), List.drop_eq_nil_of_le (by omega)]
    simp
section
variable {K : PySem.W.Frag} {H : Hp} {Q : VK} {a : Addr} {xs : List V} {lo hi : Option Int}
theorem g_slJ (h : H a = some (.tup xs)) (q : ∀ c H', H' c = some (.tup (cutV xs lo hi)) → Same H H' → Q (.ref c) H') : rSlG K (.ref a) lo hi H Q :=
  .inr (.inl ⟨a, xs, rfl, .of h, fun e => q a H (by unfold cutV; rw [e.1, e.2]; simpa using h) (.refl _), fun _ p H' _ e s => q p H' e s⟩)
end
def spBehind : Sp := fun vs H Q _ => ∃ (ra el dl : Addr) (us ws : List V) (R due : List PyData) (es : List Nat), vs = [.ref ra, .ref el, .ref dl] ∧ H ra = some (.tup us) ∧ Jqs H us R ∧ H el = some (.lst (es.map fun i => V.int (i : Nat))) ∧ H dl = some (.lst ws) ∧ Tps H ws due ∧
  due.length ≤ 1000 ∧ (∀ d ∈ due, Due 2 d) ∧ es.length ≤ 1000 ∧
  ∀ (l : Addr) (fs : List Nat) (H' : Hp), H l = none → H' l = some (.lst (fs.map fun i => V.int (i : Nat))) → fs.length ≤ es.length → (∀ j, j ∈ fs ↔ ∃ i ∈ es, StandAt R due i j) → Same H H' → Q (.ref l) H'
theorem pure_behind {K : PySem.W.Frag} {w : World} : PureOk 3 spBehind (t_behind_all K w (spAlike 3)) 5 := by
  refine ⟨fun vs H Q E ⟨_, _, _, _, _, _, _, _, e, _⟩ => by rw [e]; rfl, ?_⟩
  rintro vs H Q E ⟨ra, el, dl, us, ws, R, due, es, rfl, er, tr, ee, ed, td, hdl, hdue, hel, q⟩
  show t_behind_all K w _ _ [some (.ref ra), some (.ref el), some (.ref dl), none, none] H
  unfold t_behind_all
  have hwl : ws.length = due.length := td.length
  walk_at "gg"
  rename_i fl H1 n1 e1 s1
  refine g_seqL ?_
  walk_at "gg"
  refine for_L (xs := es.map fun i => V.int (i : Nat)) (fun n σ H' => ∃ (x4 : Option V) (fs : List Nat), σ = [some (.ref ra), some (.ref el), some (.ref dl), some (.ref fl), x4] ∧ H' fl = some (.lst (fs.map fun i => V.int (i : Nat))) ∧ fs.length ≤ n ∧ (∀ j, j ∈ fs ↔ ∃ i ∈ es.take n, StandAt R due i j) ∧ Same H H')
    (fun n σ H' ⟨_, _, _, _, _, _, s⟩ => s _ _ ee) ⟨none, [], rfl, e1, Nat.le_refl _, by simp, s1⟩ ?_ ?_
  · rintro n x σ H4 hx ⟨x4, fs, rfl, ef, hfl, hfs, s4⟩
    rw [List.getElem?_map] at hx
    obtain ⟨i, hi, rfl⟩ := Option.map_eq_some_iff.mp hx
    have hn : n < es.length := (List.getElem?_eq_some_iff.mp hi).1
    have er4 := s4 _ _ er
    have ed4 := s4 _ _ ed
    walk_at "gg"
    refine g_slJ er4 fun c H5 e5 s5 => ?_
    rw [hwl, cut_at] at e5
    have tc : Jqs H5 _ _ := ((tr.mono (Same.tj (s4.trans s5))).drop i).take due.length
    have td5 := td.mono (Same.tk (s4.trans s5))
    have ed5 := s5 _ _ ed4
    walk_at "gg"
    rename_i c6 H6 n6 e6 s6
    refine ⟨_, _, .tuple ((R.drop i).take due.length), .tuple due, rfl, .tup (s6 _ _ e5) (tc.mono (Same.tj s6)), .tup e6 (td5.mono (Same.tk s6)), .tup hdl hdue, fun b H7 hb s7 => ?_⟩
    refine ⟨b, rfl, ?_⟩
    have hb' : b = true ↔ due <+: R.drop i := by
      rw [hb, pre_take]
      exact ⟨fun h => PyData.tuple.inj h, fun h => congrArg PyData.tuple h⟩
    have ed7 := s7 _ _ (s6 _ _ ed5)
    have ef7 := s7 _ _ (s6 _ _ (s5 _ _ ef))
    have htk : ∀ j, (∃ i' ∈ es.take (n + 1), StandAt R due i' j) ↔ (∃ i' ∈ es.take n, StandAt R due i' j) ∨ StandAt R due i j := fun j => by
      rw [List.take_add_one, hi, Option.toList_some]
      constructor
      · rintro ⟨i', h1, h2⟩
        rcases List.mem_append.mp h1 with h1 | h1
        · exact .inl ⟨i', h1, h2⟩
        · rw [List.mem_singleton.mp h1] at h2; exact .inr h2
      · rintro (⟨i', h1, h2⟩ | h2)
        · exact ⟨i', List.mem_append_left _ h1, h2⟩
        · exact ⟨i, by simp, h2⟩
    refine g_ite (fun hbt => ?_) (fun hbf => ?_)
    · walk_at "gg"
      refine g_append ef7 (by rw [List.length_map]; show _ < 16777216; omega) ?_
      walk_at "gg"
      rename_i H8 e8 c8
      refine ⟨_, fs ++ [i + due.length], rfl, by rw [e8, List.map_append, List.map_singleton, hwl]; rfl, by rw [List.length_append, List.length_singleton]; omega, fun j => ?_, fun b o eo => c8 b o (ne_of_none eo n1) (s7 b o (s6 b o (s5 b o (s4 b o eo))))⟩
      rw [htk, List.mem_append, List.mem_singleton, hfs]
      exact or_congr_right ⟨fun h => ⟨hb'.mp hbt, h⟩, fun h => h.2⟩
    · walk_at "gg"
      refine ⟨_, fs, rfl, ef7, by omega, fun j => ?_, s4.trans (s5.trans (s6.trans s7))⟩
      rw [htk, hfs]
      exact ⟨.inl, fun h => h.elim id fun h => by rw [hb'.mpr h.1] at hbf; cases hbf⟩
  · rintro σ H4 ⟨x4, fs, rfl, ef, hfl, hfs, s4⟩
    rw [List.length_map] at hfl hfs
    rw [List.take_length] at hfs
    walk_at "gg"
    exact q fl fs H4 n1 ef hfl hfs s4

/-! ### the judge's parts -/
theorem WsOk.b {ws : Str → Way} (h : WsOk ws) : WsB ws := fun x => (h x).1
/-- rows, and where a part's ways are told -/
structure JPre (H : Hp) (ra : Addr) (us : List V) (R : List PyData) (v : V) (p : Part) (d : Addr) (dom : List Str) (ws : Str → Way) : Prop where
  er : H ra = some (.tup us)
  tr : Jqs H us R
  tv : Tp H v p.data
  pre : RowsPre H p d dom ws
  wok : WsOk ws
theorem JPre.same {H H' : Hp} {ra : Addr} {us : List V} {R : List PyData} {v : V} {p : Part} {d : Addr} {dom : List Str} {ws : Str → Way} (h : JPre H ra us R v p d dom ws) (s : Same H H') : JPre H' ra us R v p d dom ws :=
  ⟨s _ _ h.er, h.tr.mono (Same.tj s), h.tv.mono (Same.tk s), h.pre.same s, h.wok⟩
abbrev natsV (es : List Nat) : List V := es.map fun i => V.int (i : Nat)
/-- the ends, a list of one at most -/
abbrev EndsK (H : Hp) (P : Nat → Prop) (Q : VK) : Prop := ∀ (l : Addr) (es : List Nat) (H' : Hp), H l = none → H' l = some (.lst (natsV es)) → es.length ≤ 1 → (∀ j, j ∈ es ↔ P j) → Same H H' → Q (.ref l) H'
def numWant (want : Str) : Prop := want = "number" ∨ want = "pair"
def spDoings (m : Nat) : Sp := fun vs H Q _ => ∃ (ra : Addr) (us : List V) (R : List PyData) (i : Nat) (v : V) (p : Part) (d : Addr) (dom : List Str) (ws : Str → Way) (want : Str), vs = [.ref ra, .int (i : Nat), v, .str want, .ref d] ∧ JPre H ra us R v p d dom ws ∧ p.deep ≤ m ∧ numWant want ∧ EndsK H (EndAt ws R p want i) Q
def spEndings (m : Nat) : Sp := fun vs H Q _ => ∃ (ra : Addr) (us : List V) (R : List PyData) (i : Nat) (v : V) (p : Part) (d : Addr) (dom : List Str) (ws : Str → Way), vs = [.ref ra, .int (i : Nat), v, .ref d] ∧ JPre H ra us R v p d dom ws ∧ p.deep ≤ m ∧ EndsK H (EndAt ws R p "" i) Q
def spDoingsAll (m : Nat) : Sp := fun vs H Q _ => ∃ (ra el : Addr) (us : List V) (R : List PyData) (is : List Nat) (v : V) (p : Part) (d : Addr) (dom : List Str) (ws : Str → Way) (want : Str), vs = [.ref ra, .ref el, v, .str want, .ref d] ∧ H el = some (.lst (natsV is)) ∧ is.length ≤ 1 ∧ JPre H ra us R v p d dom ws ∧ p.deep ≤ m ∧ numWant want ∧
  EndsK H (fun j => ∃ i ∈ is, EndAt ws R p want i j) Q
def spSums (m : Nat) : Sp := fun vs H Q _ => ∃ (ra : Addr) (us : List V) (R : List PyData) (i : Nat) (v : V) (k : K2) (a b : Part) (d : Addr) (dom : List Str) (ws : Str → Way), vs = [.ref ra, .int (i : Nat), v, .ref d] ∧ JPre H ra us R v (.two k a b) d dom ws ∧ (Part.two k a b).deep ≤ m + 1 ∧
  EndsK H (fun j => ∃ i1, EndAt ws R a "number" i i1 ∧ ∃ i2, EndAt ws R b "number" i1 i2 ∧ StandAt R [nowD k.word] i2 j) Q
def spSides (m : Nat) : Sp := fun vs H Q _ => ∃ (ra : Addr) (us : List V) (R : List PyData) (i : Nat) (v : V) (k : K1) (a : Part) (d : Addr) (dom : List Str) (ws : Str → Way), vs = [.ref ra, .int (i : Nat), v, .ref d] ∧ JPre H ra us R v (.one k a) d dom ws ∧ (Part.one k a).deep ≤ m + 1 ∧
  EndsK H (fun j => ∃ i1, EndAt ws R a "pair" i i1 ∧ StandAt R [sideD k.word] i1 j) Q
def spIsOne (m : Nat) : Sp := fun vs H Q _ => ∃ (ra : Addr) (us : List V) (R : List PyData) (v : V) (p : Part) (d : Addr) (dom : List Str) (ws : Str → Way) (want : Str), vs = [.ref ra, v, .str want, .ref d] ∧ JPre H ra us R v p d dom ws ∧ p.deep ≤ m ∧ wanted want ∧
  ∀ (b : Bool) (H' : Hp), (b = true ↔ DoneR ws p want R) → Same H H' → Q (.bl b) H'
def spTurns (m : Nat) : Sp := fun vs H Q _ => ∃ (ra : Addr) (us : List V) (R : List PyData) (i : Nat) (v : V) (a b c : Part) (d : Addr) (dom : List Str) (ws : Str → Way) (want : Str), vs = [.ref ra, .int (i : Nat), v, .str want, .ref d] ∧ JPre H ra us R v (.whn a b c) d dom ws ∧ (Part.whn a b c).deep ≤ m + 1 ∧ wanted want ∧
  EndsK H (fun j => ∃ i1, EndAt ws R a "number" i i1 ∧ j = i1 + 1 ∧ ∃ y z, R[i1]? = some (turnD y z) ∧ DoneR ws b want y ∧ DoneR ws c want z) Q
def spIsTurn : Sp := fun vs H Q _ => ∃ (v : V) (d : PyData), vs = [v] ∧ Jq H v d ∧ ∀ (b : Bool) (H' : Hp), (b = true ↔ ∃ y z, d = turnD y z) → Same H H' → Q (.bl b) H'
section
variable {K : PySem.W.Frag} {w : World} {m : Nat}
theorem pure_isturn : PureOk 1 spIsTurn (t_is_turn K w (spAlike 3)) 1 := by
  refine ⟨fun vs H Q E ⟨_, _, e, _⟩ => by rw [e]; rfl, ?_⟩
  rintro vs H Q E ⟨v, d, rfl, hv, q⟩
  show t_is_turn K w _ _ [some v] H
  unfold t_is_turn
  walk_at "gg"
  refine g_isi hv.ty (kit_tuple hv) ?_
  walk_at "gg"
  have no : ∀ {d : PyData}, isTupD d = false → ∀ {b : Bool}, b = false → (b = true ↔ ∃ y z, d = turnD y z) := fun hd b hb => ⟨fun h => (by rw [hb] at h; cases h), fun ⟨y, z, e⟩ => (by rw [e] at hd; cases hd)⟩
  cases hv with
  | str x => exact g_T rfl (by walk_at "gg"; exact q false H (no rfl rfl) (.refl _))
  | non => exact g_T rfl (by walk_at "gg"; exact q false H (no rfl rfl) (.refl _))
  | bl b => exact g_T rfl (by walk_at "gg"; exact q false H (no rfl rfl) (.refl _))
  | int i => exact g_T rfl (by walk_at "gg"; exact q false H (no rfl rfl) (.refl _))
  | lst e => exact g_T rfl (by walk_at "gg"; exact q false H (no rfl rfl) (.refl _))
  | @tup a xs ds ea txs =>
    refine g_F rfl ?_
    walk_at "gg"
    by_cases h3 : xs.length = 3
    · match xs, ds, h3, txs, ea with
      | [v0, v1, v2], [d0, d1, d2], _, txs, ea =>
      cases txs with
      | cons t0 r =>
      cases r with
      | cons t1 r =>
      cases r with
      | cons t2 r =>
      walk_at "gg"
      refine ⟨v0, _, d0, .str "turn", rfl, t0, .str _, .str _ _, fun b H1 hb s1 => ?_⟩
      refine ⟨b, rfl, ?_⟩
      refine g_ite (fun hn => ?_) (fun hn => ?_)
      · have hb0 : b = false := by cases b <;> simp_all
        walk_at "gg"
        refine q false H1 ⟨fun h => (by cases h), fun ⟨y, z, e⟩ => ?_⟩ s1
        have e' := PyData.tuple.inj e
        injection e' with e1 e2
        have := hb.mpr e1
        rw [hb0] at this
        exact this
      · have hb1 : b = true := by cases b <;> simp_all
        obtain rfl := hb.mp hb1
        have ea1 := s1 _ _ ea
        have t1' := t1.mono (Same.tj s1)
        have t2' := t2.mono (Same.tj s1)
        walk_at "gg"
        refine g_isi t1'.ty (kit_tuple t1') ?_
        walk_at "gg"
        refine g_ite (fun h1 => ?_) (fun h1 => ?_)
        · walk_at "gg"
          refine g_isi t2'.ty (kit_tuple t2') ?_
          refine q _ H1 ?_ s1
          constructor
          · intro h2
            cases t1' <;> first | (exact absurd h1 Bool.false_ne_true) | skip
            cases t2' <;> first | (exact absurd h2 Bool.false_ne_true) | skip
            exact ⟨_, _, rfl⟩
          · rintro ⟨y, z, e⟩
            have e' := PyData.tuple.inj e
            injection e' with _ e2
            injection e2 with _ e3
            injection e3 with e4 _
            rw [e4]
            rfl
        · rw [h1]
          refine q false H1 ⟨fun h => (by cases h), fun ⟨y, z, e⟩ => ?_⟩ s1
          have e' := PyData.tuple.inj e
          injection e' with _ e2
          injection e2 with e3 _
          rw [e3] at h1
          cases h1
    · rw [show (!decide ((xs.length : Int) = 3)) = true from by simp; omega]
      walk_at "gg"
      exact q false H ⟨fun h => (by cases h), fun ⟨y, z, e⟩ => (by
        have := txs.length
        have e' := PyData.tuple.inj e
        rw [e'] at this
        exact absurd this h3)⟩ (.refl _)
theorem pure_doingsall : PureOk 5 (spDoingsAll m) (t_doings_all K w (spDoings m)) 7 := by
  refine ⟨fun vs H Q E ⟨_, _, _, _, _, _, _, _, _, _, _, e, _⟩ => by rw [e]; rfl, ?_⟩
  rintro vs H Q E ⟨ra, el, us, R, is, v, p, d, dom, ws, want, rfl, ee, hil, h, hm, hw, q⟩
  show t_doings_all K w _ _ [some (.ref ra), some (.ref el), some v, some (.str want), some (.ref d), none, none] H
  unfold t_doings_all
  walk_at "gg"
  rename_i fl H1 n1 e1 s1
  refine g_seqL ?_
  walk_at "gg"
  refine for_L (xs := natsV is) (fun n σ H' => ∃ (x6 : Option V) (fs : List Nat), σ = [some (.ref ra), some (.ref el), some v, some (.str want), some (.ref d), some (.ref fl), x6] ∧ H' fl = some (.lst (natsV fs)) ∧ fs.length ≤ n ∧ (∀ j, j ∈ fs ↔ ∃ i ∈ is.take n, EndAt ws R p want i j) ∧ Same H H')
    (fun n σ H' ⟨_, _, _, _, _, _, s⟩ => s _ _ ee) ⟨none, [], rfl, e1, Nat.le_refl _, by simp, s1⟩ ?_ ?_
  · rintro n x σ H4 hx ⟨x6, fs, rfl, ef, hfl, hfs, s4⟩
    rw [List.getElem?_map] at hx
    obtain ⟨i, hi, rfl⟩ := Option.map_eq_some_iff.mp hx
    have hn : n < is.length := (List.getElem?_eq_some_iff.mp hi).1
    walk_at "gg"
    refine ⟨ra, us, R, i, v, p, d, dom, ws, want, rfl, h.same s4, hm, hw, fun l es H5 nl el5 hes he s5 => ?_⟩
    walk_at "gg"
    refine g_extend (s5 _ _ ef) el5 (by simp only [List.length_map]; show _ ≤ 16777216; omega) ?_
    walk_at "gg"
    rename_i H6 e6 c6
    refine ⟨_, fs ++ es, rfl, by rw [e6, ← List.map_append], by rw [List.length_append]; omega, fun j => ?_, fun b o eo => c6 b o (ne_of_none eo n1) (s5 b o (s4 b o eo))⟩
    rw [List.mem_append, hfs, he, List.take_add_one, hi, Option.toList_some]
    constructor
    · rintro (⟨i', h1, h2⟩ | h2)
      · exact ⟨i', List.mem_append_left _ h1, h2⟩
      · exact ⟨i, by simp, h2⟩
    · rintro ⟨i', h1, h2⟩
      rcases List.mem_append.mp h1 with h1 | h1
      · exact .inl ⟨i', h1, h2⟩
      · rw [List.mem_singleton.mp h1] at h2; exact .inr h2
  · rintro σ H4 ⟨x6, fs, rfl, ef, hfl, hfs, s4⟩
    rw [List.length_map] at hfl hfs
    rw [List.take_length] at hfs
    walk_at "gg"
    exact q fl fs H4 n1 ef (by omega) hfs s4
theorem due_row {s t : Str} : Due 2 (.tuple [.str s, .str t]) := .tup (by simp) fun d hd => by
  simp only [List.mem_cons, List.not_mem_nil, or_false] at hd
  rcases hd with rfl | rfl <;> exact .str _ _
theorem pure_sumsend : PureOk 4 (spSums m) (t_sums_end K w (spDoings m) (spDoingsAll m) spBehind) 5 := by
  refine ⟨fun vs H Q E ⟨_, _, _, _, _, _, _, _, _, _, _, e, _⟩ => by rw [e]; rfl, ?_⟩
  rintro vs H Q E ⟨ra, us, R, i, v, k, a, b, d, dom, ws, rfl, h, hm, q⟩
  show t_sums_end K w _ _ _ _ [some (.ref ra), some (.int (i : Nat)), some v, some (.ref d), none] H
  unfold t_sums_end
  obtain ⟨pa, u1, u2, u3, rfl, ea, t1, t2, t3⟩ := id (Tp.three h.tv)
  rw [t1.str_inv] at ea
  have e : (Part.two k a b).deep = 1 + max a.deep b.deep := rfl
  walk_at "gg"
  refine ⟨ra, us, R, i, u2, a, d, dom, ws, "number", rfl, ⟨h.er, h.tr, t2, h.pre.kid0 (two_plain k a b) (by simp [Part.kids]), h.wok⟩, by omega, .inl rfl, fun l es H1 nl el hel he s1 => ?_⟩
  have ea1 := s1 _ _ ea
  walk_at "gg"
  refine ⟨ra, l, us, R, es, u3, b, d, dom, ws, "number", rfl, el, hel, (JPre.same ⟨h.er, h.tr, t3, h.pre.kid0 (two_plain k a b) (by simp [Part.kids]), h.wok⟩ s1), by omega, .inl rfl, fun l2 es2 H2 nl2 el2 hel2 he2 s2 => ?_⟩
  have ea2 := s2 _ _ ea1
  have h2 := h.same (s1.trans s2)
  walk_at "gg"
  rename_i a3 H3 n3 e3 s3 l4 H4 n4 e4 s4
  have s34 := s3.trans s4
  refine ⟨ra, l2, l4, us, _, R, [nowD k.word], es2, rfl, s34 _ _ h2.er, h2.tr.mono (Same.tj s34), s34 _ _ el2, e4, .one (.tup (s4 _ _ e3) (.cons (.str _) (.one (.str _)))), by simp, fun x hx => ?_, by omega, fun l5 fs H5 n5 e5 hfl hfs s5 => ?_⟩
  · rw [List.mem_singleton.mp hx]
    exact due_row
  · refine q l5 fs H5 (s1.free (s2.free (s34.free n5))) e5 (by omega) (fun j => ?_) (s1.trans (s2.trans (s34.trans s5)))
    rw [hfs]
    constructor
    · rintro ⟨i2, h2, h3⟩
      obtain ⟨i1, h1, h2⟩ := (he2 _).mp h2
      exact ⟨i1, (he _).mp h1, i2, h2, h3⟩
    · rintro ⟨i1, h1, i2, h2, h3⟩
      exact ⟨i2, (he2 _).mpr ⟨i1, (he _).mpr h1, h2⟩, h3⟩
theorem pure_sidesend : PureOk 4 (spSides m) (t_sides_end K w (spDoings m) spBehind) 5 := by
  refine ⟨fun vs H Q E ⟨_, _, _, _, _, _, _, _, _, _, e, _⟩ => by rw [e]; rfl, ?_⟩
  rintro vs H Q E ⟨ra, us, R, i, v, k, a, d, dom, ws, rfl, h, hm, q⟩
  show t_sides_end K w _ _ _ [some (.ref ra), some (.int (i : Nat)), some v, some (.ref d), none] H
  unfold t_sides_end
  obtain ⟨pa, u1, u2, rfl, ea, t1, t2⟩ := id (Tp.two h.tv)
  rw [t1.str_inv] at ea
  have e : (Part.one k a).deep = 1 + a.deep := rfl
  walk_at "gg"
  refine ⟨ra, us, R, i, u2, a, d, dom, ws, "pair", rfl, ⟨h.er, h.tr, t2, h.pre.kid0 (one_plain k a) (by simp [Part.kids]), h.wok⟩, by omega, .inr rfl, fun l es H1 nl el hel he s1 => ?_⟩
  have ea1 := s1 _ _ ea
  have h1 := h.same s1
  walk_at "gg"
  rename_i a3 H3 n3 e3 s3 l4 H4 n4 e4 s4
  have s34 := s3.trans s4
  refine ⟨ra, l, l4, us, _, R, [sideD k.word], es, rfl, s34 _ _ h1.er, h1.tr.mono (Same.tj s34), s34 _ _ el, e4, .one (.tup (s4 _ _ e3) (.cons (.str _) (.one (.str _)))), by simp, fun x hx => ?_, by omega, fun l5 fs H5 n5 e5 hfl hfs s5 => ?_⟩
  · rw [List.mem_singleton.mp hx]
    exact due_row
  · refine q l5 fs H5 (s1.free (s34.free n5)) e5 (by omega) (fun j => ?_) (s1.trans (s34.trans s5))
    rw [hfs]
    exact ⟨fun ⟨i1, h1, h2⟩ => ⟨i1, (he _).mp h1, h2⟩, fun ⟨i1, h1, h2⟩ => ⟨i1, (he _).mpr h1, h2⟩⟩
theorem inV_nat (n : Nat) : ∀ es : List Nat, inV (.int (n : Nat)) (natsV es) = decide (n ∈ es)
  | [] => rfl
  | e :: es => by
    have ih := inV_nat n es
    unfold inV at ih ⊢
    show List.any (V.int (e : Nat) :: natsV es) _ = _
    rw [List.any_cons, ih]
    show (((e : Nat) : Int) == ((n : Nat) : Int) || decide (n ∈ es)) = _
    by_cases h : e = n
    · subst h; simp
    · have h' : ¬ ((e : Nat) : Int) = ((n : Nat) : Int) := by omega
      rw [beq_false_of_ne h', Bool.false_or]
      simp [Ne.symm h]
theorem g_inN {H : Hp} {Q : VK} {l : Addr} {n : Nat} {es : List Nat} (h : H l = some (.lst (natsV es))) (q : Q (.bl (decide (n ∈ es))) H) : rInG K w false (.int (n : Nat)) (.ref l) H Q :=
  .inl ⟨l, _, rfl, .inl (.of h), rfl, by simp [flatV], by rw [inV_nat]; exact q⟩
theorem pure_isone : PureOk 4 (spIsOne m) (t_is_one K w (spEndings m) (spDoings m)) 4 := by
  refine ⟨fun vs H Q E ⟨_, _, _, _, _, _, _, _, _, e, _⟩ => by rw [e]; rfl, ?_⟩
  rintro vs H Q E ⟨ra, us, R, v, p, d, dom, ws, want, rfl, h, hm, hw, q⟩
  show t_is_one K w _ _ _ [some (.ref ra), some v, some (.str want), some (.ref d)] H
  unfold t_is_one
  have er := h.er
  have fin : ∀ {H' : Hp} {l : Addr} {es : List Nat}, H' l = some (.lst (natsV es)) → (∀ j, j ∈ es ↔ EndAt ws R p want 0 j) → Same H H' → rInG K w false (.int us.length) (.ref l) H' Q := by
    intro H' l es el he s
    refine g_inN el ?_
    refine q _ H' ?_ s
    rw [decide_eq_true_eq, he, h.tr.length, end_whole]
  walk_at "gg"
  refine g_ite (fun h0 => ?_) (fun h0 => ?_)
  · obtain rfl := of_decide_eq_true h0
    walk_at "gg"
    refine ⟨ra, us, R, 0, v, p, d, dom, ws, rfl, h, hm, fun l es H1 nl el hel he s1 => ?_⟩
    exact fin el he s1
  · have hw' : numWant want := hw.resolve_left (of_decide_eq_false h0)
    walk_at "gg"
    refine ⟨ra, us, R, 0, v, p, d, dom, ws, want, rfl, h, hm, hw', fun l es H1 nl el hel he s1 => ?_⟩
    exact fin el he s1
theorem turn_inj {y z y' z' : List PyData} (e : turnD y z = turnD y' z') : y = y' ∧ z = z' := by
  have e' := PyData.tuple.inj e
  injection e' with _ e2
  injection e2 with e3 e4
  injection e4 with e5 _
  exact ⟨PyData.tuple.inj e3, PyData.tuple.inj e5⟩
theorem turn_at {H : Hp} {us : List V} {R : List PyData} {i : Nat} {y z : List PyData} (t : Jqs H us R) (e : R[i]? = some (turnD y z)) : ∃ (a b c : Addr) (ys zs : List V) (v0 : V), us[i]? = some (.ref a) ∧ H a = some (.tup [v0, .ref b, .ref c]) ∧ H b = some (.tup ys) ∧ Jqs H ys y ∧ H c = some (.tup zs) ∧ Jqs H zs z := by
  have hl : i < us.length := by rw [t.length]; exact (List.getElem?_eq_some_iff.mp e).1
  obtain ⟨d, hd, tv⟩ := t.at (List.getElem?_eq_getElem hl)
  rw [e] at hd
  cases hd
  have hu := List.getElem?_eq_getElem hl
  generalize us[i] = u at hu tv
  cases tv with
  | tup ea r =>
  cases r with
  | cons t0 r =>
  cases r with
  | cons t1 r =>
  cases r with
  | cons t2 r =>
  cases r
  cases t1 with
  | tup eb r1 =>
  cases t2 with
  | tup ec r2 => exact ⟨_, _, _, _, _, _, hu, ea, eb, r1, ec, r2⟩
theorem pure_turnsend : PureOk 5 (spTurns m) (t_turns_end K w (spDoings m) spIsTurn (spIsOne m)) 8 := by
  refine ⟨fun vs H Q E ⟨_, _, _, _, _, _, _, _, _, _, _, _, e, _⟩ => by rw [e]; rfl, ?_⟩
  rintro vs H Q E ⟨ra, us, R, i, v, a, b, c, d, dom, ws, want, rfl, h, hm, hw, q⟩
  show t_turns_end K w _ _ _ _ [some (.ref ra), some (.int (i : Nat)), some v, some (.str want), some (.ref d), none, none, none] H
  unfold t_turns_end
  obtain ⟨pa, ys, rfl, ea, ty⟩ := id h.tv.part
  obtain ⟨u2, ys1, rfl, t2, ty⟩ := Tps.cons_inv (ds := [b.data, c.data]) ty
  obtain ⟨u3, ys2, rfl, t3, ty⟩ := Tps.cons_inv (ds := [c.data]) ty
  obtain ⟨u4, ys3, rfl, t4, ty⟩ := Tps.cons_inv (ds := []) ty
  rw [ty.nil_inv] at ea
  have ea' : H pa = some (.tup [.str "when", u2, u3, u4]) := ea
  clear ea ty
  have e : (Part.whn a b c).deep = 1 + max a.deep (max b.deep c.deep) := rfl
  have er := h.er
  walk_at "gg"
  rename_i fl H1 n1 e1 s1
  refine g_seqL ?_
  have ea1 := s1 _ _ ea'
  walk_at "gg"
  refine ⟨ra, us, R, i, u2, a, d, dom, ws, "number", rfl, JPre.same ⟨h.er, h.tr, t2, h.pre.kid0 (whn_plain a b c) (by simp [Part.kids]), h.wok⟩ s1, by omega, .inl rfl, fun el es H2 nel eel hel he s2 => ?_⟩
  walk_at "gg"
  refine for_L (xs := natsV es) (fun n σ H' => ∃ (x6 x7 : Option V) (fs : List Nat), σ = [some (.ref ra), some (.int (i : Nat)), some (.ref pa), some (.str want), some (.ref d), some (.ref fl), x6, x7] ∧ H' fl = some (.lst (natsV fs)) ∧ fs.length ≤ n ∧
      (∀ j, j ∈ fs ↔ ∃ i1 ∈ es.take n, j = i1 + 1 ∧ ∃ y z, R[i1]? = some (turnD y z) ∧ DoneR ws b want y ∧ DoneR ws c want z) ∧ Same H H' ∧ H' el = some (.lst (natsV es)))
    (fun n σ H' ⟨_, _, _, _, _, _, _, _, s⟩ => s) ⟨none, none, [], rfl, s2 _ _ e1, Nat.le_refl _, by simp, s1.trans s2, eel⟩ ?_ ?_
  · rintro n x σ H4 hx ⟨x6, x7, fs, rfl, ef, hfl, hfs, s4, eel4⟩
    rw [List.getElem?_map] at hx
    obtain ⟨i1, hi, rfl⟩ := Option.map_eq_some_iff.mp hx
    have hn : n < es.length := (List.getElem?_eq_some_iff.mp hi).1
    have htk : ∀ j, (∃ i' ∈ es.take (n + 1), j = i' + 1 ∧ ∃ y z, R[i']? = some (turnD y z) ∧ DoneR ws b want y ∧ DoneR ws c want z) ↔ (∃ i' ∈ es.take n, j = i' + 1 ∧ ∃ y z, R[i']? = some (turnD y z) ∧ DoneR ws b want y ∧ DoneR ws c want z) ∨ (j = i1 + 1 ∧ ∃ y z, R[i1]? = some (turnD y z) ∧ DoneR ws b want y ∧ DoneR ws c want z) := fun j => by
      rw [List.take_add_one, hi, Option.toList_some]
      constructor
      · rintro ⟨i', h1, h2⟩
        rcases List.mem_append.mp h1 with h1 | h1
        · exact .inl ⟨i', h1, h2⟩
        · rw [List.mem_singleton.mp h1] at h2; exact .inr h2
      · rintro (⟨i', h1, h2⟩ | h2)
        · exact ⟨i', List.mem_append_left _ h1, h2⟩
        · exact ⟨i1, by simp, h2⟩
    have hno : (¬ ∃ y z, R[i1]? = some (turnD y z) ∧ DoneR ws b want y ∧ DoneR ws c want z) → ∀ j, j ∈ fs ↔ ∃ i' ∈ es.take (n + 1), j = i' + 1 ∧ ∃ y z, R[i']? = some (turnD y z) ∧ DoneR ws b want y ∧ DoneR ws c want z := fun hno j => by
      rw [htk, hfs]
      exact ⟨.inl, fun h => h.elim id fun h => absurd h.2 hno⟩
    have h4 := h.same s4
    have er4 := h4.er
    have tr4 := h4.tr
    have ea4 := s4 _ _ ea'
    have nfl : H fl = none := n1
    have nel' : H el = none := s1.free nel
    walk_at "gg"
    refine g_ite (fun hlt => ?_) (fun hlt => ?_)
    · have hlt' : i1 < us.length := by have := of_decide_eq_true hlt; omega
      have hat := List.getElem?_eq_getElem hlt'
      obtain ⟨d1, hd1, td1⟩ := tr4.at hat
      walk_at "gg"
      refine g_ixT (.of er4) (v := us[i1]) (atI_of (by omega) (by rw [show ((i1 : Nat) : Int).toNat = i1 from by omega]; exact hat)) ?_
      walk_at "gg"
      refine ⟨_, d1, rfl, td1, fun b0 H5 hb0 s5 => ?_⟩
      refine ⟨b0, rfl, ?_⟩
      refine g_ite (fun hbt => ?_) (fun hbf => ?_)
      · obtain ⟨y, z, rfl⟩ := hb0.mp hbt
        have h5 := h4.same s5
        obtain ⟨ta, tb, tc, yv, zv, v0, hu, eta, etb, ty, etc, tz⟩ := turn_at h5.tr hd1
        have er5 := h5.er
        have ea5 := s5 _ _ ea4
        walk_at "gg"
        refine g_ixT (.of er5) (v := .ref ta) (atI_of (by omega) (by rw [show ((i1 : Nat) : Int).toNat = i1 from by omega]; exact hu)) ?_
        walk_at "gg"
        refine ⟨tb, yv, y, u3, b, d, dom, ws, want, rfl, JPre.same ⟨etb, ty, t3.mono (Same.tk (s4.trans s5)), (h5.pre.kid0 (whn_plain a b c) (by simp [Part.kids])), h.wok⟩ (.refl _), by omega, hw, fun b1 H6 hb1 s6 => ?_⟩
        have h6 := h5.same s6
        have er6 := h6.er
        have ea6 := s6 _ _ ea5
        have eta6 := s6 _ _ eta
        walk_at "gg"
        refine g_ite (fun hb1t => ?_) (fun hb1f => ?_)
        · walk_at "gg"
          refine g_ixT (.of er6) (v := .ref ta) (atI_of (by omega) (by rw [show ((i1 : Nat) : Int).toNat = i1 from by omega]; exact hu)) ?_
          walk_at "gg"
          refine ⟨tc, zv, z, u4, c, d, dom, ws, want, rfl, JPre.same ⟨etc, tz, t4.mono (Same.tk (s4.trans s5)), (h5.pre.kid0 (whn_plain a b c) (by simp [Part.kids])), h.wok⟩ s6, by omega, hw, fun b2 H7 hb2 s7 => ?_⟩
          have s47 := s5.trans (s6.trans s7)
          refine ⟨b2, rfl, ?_⟩
          refine g_ite (fun hb2t => ?_) (fun hb2f => ?_)
          · walk_at "gg"
            refine g_append (s47 _ _ ef) (by rw [List.length_map]; show _ < 16777216; omega) ?_
            walk_at "gg"
            rename_i H8 e8 c8
            refine ⟨_, _, fs ++ [i1 + 1], rfl, by rw [e8]; simp [natsV], by rw [List.length_append, List.length_singleton]; omega, fun j => ?_, fun b o eo => c8 b o (ne_of_none eo nfl) (s47 b o (s4 b o eo)), ?_⟩
            · rw [htk, List.mem_append, List.mem_singleton, hfs]
              exact or_congr_right ⟨fun h => ⟨h, y, z, hd1, hb1.mp hb1t, hb2.mp hb2t⟩, fun h => h.1⟩
            · have : el ≠ fl := fun z => by
                rw [z] at nel
                rw [show H1 fl = some (.lst []) from e1] at nel
                cases nel
              exact c8 _ _ this (s47 _ _ eel4)
          · walk_at "gg"
            refine ⟨_, _, fs, rfl, s47 _ _ ef, by omega, hno ?_, s4.trans s47, s47 _ _ eel4⟩
            rintro ⟨y', z', e', h1, h2⟩
            rw [hd1] at e'
            obtain ⟨rfl, rfl⟩ := turn_inj (Option.some.inj e')
            rw [hb2.mpr h2] at hb2f
            cases hb2f
        · refine g_F rfl ?_
          walk_at "gg"
          refine ⟨_, _, fs, rfl, s6 _ _ (s5 _ _ ef), by omega, hno ?_, s4.trans (s5.trans s6), s6 _ _ (s5 _ _ eel4)⟩
          rintro ⟨y', z', e', h1, h2⟩
          rw [hd1] at e'
          obtain ⟨rfl, rfl⟩ := turn_inj (Option.some.inj e')
          rw [hb1.mpr h1] at hb1f
          cases hb1f
      · walk_at "gg"
        refine ⟨_, _, fs, rfl, s5 _ _ ef, by omega, hno ?_, s4.trans s5, s5 _ _ eel4⟩
        rintro ⟨y', z', e', h1, h2⟩
        rw [hd1] at e'
        rw [hb0.mpr ⟨y', z', Option.some.inj e'⟩] at hbf
        cases hbf
    · refine g_F rfl ?_
      walk_at "gg"
      refine ⟨_, _, fs, rfl, ef, by omega, hno ?_, s4, eel4⟩
      rintro ⟨y', z', e', h1, h2⟩
      have h3 := (List.getElem?_eq_some_iff.mp e').1
      have h4 := h.tr.length
      exact absurd (decide_eq_true (show (i1 : Int) < us.length from by omega)) (by rw [hlt]; decide)
  · rintro σ H4 ⟨x6, x7, fs, rfl, ef, hfl, hfs, s4, eel4⟩
    rw [List.length_map] at hfl hfs
    rw [List.take_length] at hfs
    walk_at "gg"
    refine q fl fs H4 n1 ef (by omega) (fun j => ?_) s4
    rw [hfs]
    exact ⟨fun ⟨i1, h1, h2⟩ => ⟨i1, (he _).mp h1, h2⟩, fun ⟨i1, h1, h2⟩ => ⟨i1, (he _).mpr h1, h2⟩⟩
end

/-! ### doings and endings, judged -/
section
variable {K : PySem.W.Frag} {w : World} {m : Nat}
/-- sorted(set(found)) -/
theorem g_sortset {H : Hp} {Q : VK} {l : Addr} {fs : List Nat} {P : Nat → Prop} (h : H l = some (.lst (natsV fs))) (hl : fs.length ≤ 1000) (hP : ∀ j, j ∈ fs ↔ P j) (h1 : ∀ j j', P j → P j' → j = j') (q : EndsK H P Q) :
    rSetLI K w [.ref l] H fun x H1 => rSortSet w [x] H1 Q := by
  refine ⟨l, fs.map fun i => ((i : Nat) : Int), rfl, .of (by rw [h, List.map_map]; rfl), by rw [List.length_map]; omega, fun p n np hn => ?_⟩
  rw [List.length_map] at hn
  refine ⟨p, _, n, rfl, upd_same, by show n ≤ 16777216; omega, fun ns p2 hs hm hnl np2 => ?_⟩
  have s : Same H (upd (upd H p (SetO w p (fun j => decide (j ∈ fs.map fun i => ((i : Nat) : Int))) n)) p2 (.lst (ns.map V.int))) := (same_upd np).trans (same_upd np2)
  have hns : ∀ k ∈ ns, ∃ j ∈ fs, ((j : Nat) : Int) = k := fun k hk => by
    have := of_decide_eq_true ((hm k).mp hk)
    obtain ⟨j, hj, e⟩ := List.mem_map.mp this
    exact ⟨j, hj, e⟩
  have hes : (ns.map Int.toNat).map (fun i => ((i : Nat) : Int)) = ns := by
    rw [List.map_map]
    refine (List.map_congr_left fun k hk => ?_).trans (List.map_id _)
    obtain ⟨j, _, rfl⟩ := hns k hk
    rfl
  have hmem : ∀ j, j ∈ ns.map Int.toNat ↔ P j := fun j => by
    rw [← hP]
    constructor
    · intro hj
      obtain ⟨k, hk, rfl⟩ := List.mem_map.mp hj
      obtain ⟨j', hj', rfl⟩ := hns k hk
      exact hj'
    · intro hj
      exact List.mem_map.mpr ⟨(j : Int), (hm _).mpr (decide_eq_true (List.mem_map.mpr ⟨j, hj, rfl⟩)), rfl⟩
  have hnd : (ns.map Int.toNat).Nodup := by
    rw [List.Nodup, List.pairwise_map]
    refine List.Pairwise.imp_of_mem (fun {a b} ha hb hab e => ?_) hs
    obtain ⟨_, _, rfl⟩ := hns a ha
    obtain ⟨_, _, rfl⟩ := hns b hb
    simp at e
    omega
  refine q p2 (ns.map Int.toNat) _ ((same_upd np).free np2) ?_ (ends_one hnd fun j hj j' hj' => h1 _ _ ((hmem j).mp hj) ((hmem j').mp hj')) hmem s
  rw [upd_same]
  show some (HO.lst (ns.map V.int)) = some (HO.lst ((ns.map Int.toNat).map fun i => V.int (i : Nat)))
  conv => lhs; rw [← hes]
  rw [List.map_map]
  rfl
def atomD (d : PyData) : Prop := (∃ s, d = .str s) ∨ ∃ i, d = .int i
theorem due_tup {ds : List PyData} (hl : ds.length ≤ 1000) (h : ∀ d ∈ ds, atomD d) : Due 2 (.tuple ds) := .tup hl fun d hd => by
  rcases h d hd with ⟨s, rfl⟩ | ⟨i, rfl⟩
  · exact .str _ s
  · exact .int _ i
theorem due1 {s : Str} : Due 2 (.tuple [.str s]) := due_tup (by simp) fun d hd => by
  obtain rfl := List.mem_singleton.mp hd
  exact .inl ⟨_, rfl⟩
theorem due2 {s : Str} {x : PyData} (hx : atomD x) : Due 2 (.tuple [.str s, x]) := due_tup (by simp) fun d hd => by
  simp only [List.mem_cons, List.not_mem_nil, or_false] at hd
  rcases hd with rfl | rfl
  · exact .inl ⟨_, rfl⟩
  · exact hx
theorem due3 {s : Str} {x y : PyData} (hx : atomD x) (hy : atomD y) : Due 2 (.tuple [.str s, x, y]) := due_tup (by simp) fun d hd => by
  simp only [List.mem_cons, List.not_mem_nil, or_false] at hd
  rcases hd with rfl | rfl | rfl
  · exact .inl ⟨_, rfl⟩
  · exact hx
  · exact hy
mutual
theorem Part.bld_due (ws : Str → Way) : ∀ (p : Part), ∀ d ∈ p.bld ws, Due 2 d
  | .num n, d, h => by
    obtain rfl := List.mem_singleton.mp h
    exact due2 (.inr ⟨_, rfl⟩)
  | .name x, d, h => by
    obtain rfl := List.mem_singleton.mp h
    exact due2 (.inr ⟨_, rfl⟩)
  | .fn f, d, h => by
    obtain rfl := List.mem_singleton.mp h
    exact due2 (.inl ⟨_, rfl⟩)
  | .one k a, d, h => by
    rcases List.mem_append.mp h with h | h
    · exact a.bld_due ws d h
    · obtain rfl := List.mem_singleton.mp h
      exact due1
  | .two k a b, d, h => by
    rcases List.mem_append.mp h with h | h
    · rcases List.mem_append.mp h with h | h
      · exact a.bld_due ws d h
      · exact b.bld_due ws d h
    · obtain rfl := List.mem_singleton.mp h
      exact due1
  | .whn a b c, d, h => by
    rcases List.mem_append.mp h with h | h
    · rcases List.mem_append.mp h with h | h
      · rcases List.mem_append.mp h with h | h
        · exact a.bld_due ws d h
        · exact b.bld_due ws d h
      · exact c.bld_due ws d h
    · obtain rfl := List.mem_singleton.mp h
      exact due1
  | .letp r a, d, h => by
    rcases List.mem_append.mp (show d ∈ r.opened ws ++ a.bld ws from h) with h | h
    · rcases List.mem_cons.mp h with rfl | h
      · exact due3 (.inr ⟨_, rfl⟩) (.inr ⟨_, rfl⟩)
      · exact r.opn_due ws d h
    · exact a.bld_due ws d h
  | .shut a, d, h => by cases h
theorem Rows.opn_due (ws : Str → Way) : ∀ (r : Rows), ∀ d ∈ r.opn ws, Due 2 d
  | .nil, d, h => by cases h
  | .cons x a r, d, h => by
    rcases List.mem_append.mp h with h | h
    · exact a.bld_due ws d h
    · rcases List.mem_cons.mp h with rfl | h
      · exact due2 (.inr ⟨_, rfl⟩)
      · exact r.opn_due ws d h
end
theorem opened_due (ws : Str → Way) (r : Rows) : ∀ d ∈ r.opened ws, Due 2 d := fun d h => by
  rcases List.mem_cons.mp h with rfl | h
  · exact due3 (.inr ⟨_, rfl⟩) (.inr ⟨_, rfl⟩)
  · exact r.opn_due ws d h
theorem due_do {want : Str} : Due 2 (doD want) := due2 (.inl ⟨_, rfl⟩)
theorem pure_doings (TO : OPSR K) (TS : SIDESR K) : PureOk 5 (spDoings (m + 1)) (t_doings K w spBehind (spBuild 12) (spSums m) (spTurns m) (spSides m) (spOpen 11) (spDoings m)) 9 := by
  refine ⟨fun vs H Q E ⟨_, _, _, _, _, _, _, _, _, _, e, _⟩ => by rw [e]; rfl, ?_⟩
  rintro vs H Q E ⟨ra, us, R, i, v, p, d, dom, ws, want, rfl, h, hm, hw, q⟩
  show t_doings K w _ _ _ _ _ _ _ _ [some (.ref ra), some (.int (i : Nat)), some v, some (.str want), some (.ref d), none, none, none, none] H
  unfold t_doings
  have hz := h.pre.z
  have hd12 := h.pre.g.2
  have hwn : want ≠ "" := by rcases hw with rfl | rfl <;> decide
  obtain ⟨pa, xs, rfl, ea, tx⟩ := id h.tv.part
  walk_at "gg"
  rename_i l1 H1 n1 e1 s1
  have h1 := h.same s1
  refine ⟨_, p, d, dom, ws, rfl, h1.tv, h1.pre, hd12, fun l2 us2 H2 nl2 el2 tu2 s2 => ?_⟩
  have hul : us2.length ≤ 1000 := by rw [tu2.length]; have := p.bld_len ws; omega
  walk_at "gg"
  rename_i a3 H3 n3 e3 s3 l4 H4 n4 e4 s4 l5 H5 n5 e5 s5
  have s25 := s3.trans (s4.trans s5)
  have s15 := s2.trans s25
  have s05 := s1.trans s15
  have h5 := h.same s05
  have hne : (afterD want) = [doD want] := after_ne hwn
  have tu5 : Tps H5 (us2 ++ [V.ref a3]) (p.bld ws ++ [doD want]) := Tps.append (tu2.mono (Same.tk s25)) (.one (.tup (s5 _ _ (s4 _ _ e3)) (.cons (.str _) (.one (.str _)))))
  have hbl := p.bld_len ws
  refine ⟨ra, l1, l5, us, _, R, p.bld ws ++ [doD want], [i], rfl, h5.er, h5.tr, s15 _ _ e1, e5, tu5, by rw [List.length_append, List.length_singleton]; omega, fun x hx => ?_, by simp, fun fl fs H6 n6 e6 hfl hfs s6 => ?_⟩
  · rcases List.mem_append.mp hx with hx | hx
    · exact p.bld_due ws x hx
    · rw [List.mem_singleton.mp hx]; exact due_do
  have hfs' : ∀ j, j ∈ fs ↔ StandAt R (p.bld ws ++ afterD want) i j := fun j => by
    rw [hfs, hne]
    exact ⟨fun ⟨i', hi', h⟩ => List.mem_singleton.mp hi' ▸ h, fun h => ⟨i, by simp, h⟩⟩
  have s06 := s05.trans s6
  have h6 := h.same s06
  have ea6 := s06 _ _ ea
  have nf : H fl = none := s05.free n6
  have huq : ∀ j j', EndAt ws R p want i j → EndAt ws R p want i j' → j = j' := fun j j' a b => EndAt.one h.wok.b h.pre.n a b
  clear hfs
  rw [List.length_singleton] at hfl
  have fin : ∀ {Hn : Hp} {gs : List Nat}, Hn fl = some (.lst (natsV gs)) → gs.length ≤ 1000 → (∀ j, j ∈ gs ↔ EndAt ws R p want i j) → Same H Hn → rSetLI K w [.ref fl] Hn fun x H1 => rSortSet w [x] H1 Q := by
    intro Hn gs en hgl hgs sn
    refine g_sortset en hgl hgs huq fun l es H7 n7 e7 hes he s7 => ?_
    exact q l es H7 (sn.free n7) e7 hes he (sn.trans s7)
  by_cases hb : p.isBlt = true
  · obtain ⟨f1, f2, f3, f4, f5⟩ := blt_facts hb
    walk_at "gg"
    refine g_inGT TO rfl f1 ?_
    walk_at "gg"
    refine g_F f2 ?_
    walk_at "gg"
    refine g_inGT TS rfl f3 ?_
    walk_at "gg"
    refine g_F f4 ?_
    walk_at "gg"
    exact fin e6 (by omega) (fun j => by rw [hfs', end_blt hb]) s06
  cases p with
  | shut a => exact h.pre.n.elim
  | num n => exact absurd rfl hb
  | name n => exact absurd rfl hb
  | fn n => exact absurd rfl hb
  | one k a =>
    walk_at "gg"
    refine g_inGT (r := false) TO rfl (by show inV (.str k.word) _ = false; cases k <;> decide +kernel) ?_
    walk_at "gg"
    refine g_F (by show decide (k.word = "when") = false; cases k <;> decide +kernel) ?_
    walk_at "gg"
    refine g_inGT (r := true) TS rfl (by show inV (.str k.word) _ = true; cases k <;> decide +kernel) ?_
    walk_at "gg"
    refine ⟨ra, us, R, i, _, k, a, d, dom, ws, rfl, h6, hm, fun l7 gs H7 n7 e7 hgl hgs s7 => ?_⟩
    have h7 := h6.same s7
    walk_at "gg"
    rename_i a8 H8 n8 e8 s8 l9 H9 n9 e9 s9
    have s79 := s8.trans s9
    have h9 := h7.same s79
    refine ⟨ra, l7, l9, us, _, R, [doD want], gs, rfl, h9.er, h9.tr, s79 _ _ e7, e9, .one (.tup (s9 _ _ e8) (.cons (.str _) (.one (.str _)))), by simp, fun x hx => by rw [List.mem_singleton.mp hx]; exact due_do, by omega, fun l10 ks H10 n10 e10 hkl hks s10 => ?_⟩
    have s610 := s7.trans (s79.trans s10)
    walk_at "gg"
    refine g_extend (s610 _ _ e6) e10 (by simp only [List.length_map]; show _ ≤ 16777216; omega) ?_
    walk_at "gg"
    rename_i H11 e11 c11
    refine fin (gs := fs ++ ks) (by rw [e11, ← List.map_append]) (by rw [List.length_append]; omega) (fun j => ?_) (fun b o eo => c11 b o (ne_of_none eo nf) (s610 b o (s06 b o eo)))
    rw [List.mem_append, hfs', hks, end_one, hne]
    refine or_congr_right ?_
    constructor
    · rintro ⟨i2, h2, h3⟩
      obtain ⟨i1, h1, h2⟩ := (hgs _).mp h2
      exact ⟨i1, h1, i2, h2, h3⟩
    · rintro ⟨i1, h1, i2, h2, h3⟩
      exact ⟨i2, (hgs _).mpr ⟨i1, h1, h2⟩, h3⟩
  | two k a b =>
    have hk : k.isOp = true := by
      cases e : k.isOp
      · exact absurd (show (!k.isOp) = true from by rw [e]; rfl) hb
      · rfl
    walk_at "gg"
    refine g_inGT (r := true) TO rfl ((op_in k).trans hk) ?_
    walk_at "gg"
    refine ⟨ra, us, R, i, _, k, a, b, d, dom, ws, rfl, h6, hm, fun l7 gs H7 n7 e7 hgl hgs s7 => ?_⟩
    have h7 := h6.same s7
    rcases hw with rfl | rfl
    · walk_at "gg"
      refine g_extend (s7 _ _ e6) e7 (by simp only [List.length_map]; show _ ≤ 16777216; omega) ?_
      walk_at "gg"
      rename_i H11 e11 c11
      refine fin (gs := fs ++ gs) (by rw [e11, ← List.map_append]) (by rw [List.length_append]; omega) (fun j => ?_) (fun b o eo => c11 b o (ne_of_none eo nf) (s7 b o (s06 b o eo)))
      rw [List.mem_append, hfs', hgs, end_op hk]
      refine or_congr_right ?_
      constructor
      · rintro ⟨i1, h1, i2, h2, h3⟩
        exact ⟨i1, h1, i2, h2, _, h3, List.nil_prefix, rfl⟩
      · rintro ⟨i1, h1, i2, h2, i3, h3, _, rfl⟩
        exact ⟨i1, h1, i2, h2, h3⟩
    · walk_at "gg"
      rename_i a8 H8 n8 e8 s8 l9 H9 n9 e9 s9
      have s79 := s8.trans s9
      have h9 := h7.same s79
      refine ⟨ra, l7, l9, us, _, R, [doD "pair"], gs, rfl, h9.er, h9.tr, s79 _ _ e7, e9, .one (.tup (s9 _ _ e8) (.cons (.str _) (.one (.str _)))), by simp, fun x hx => by rw [List.mem_singleton.mp hx]; exact due_do, by omega, fun l10 ks H10 n10 e10 hkl hks s10 => ?_⟩
      have s610 := s7.trans (s79.trans s10)
      walk_at "gg"
      refine g_extend (s610 _ _ e6) e10 (by simp only [List.length_map]; show _ ≤ 16777216; omega) ?_
      walk_at "gg"
      rename_i H11 e11 c11
      refine fin (gs := fs ++ ks) (by rw [e11, ← List.map_append]) (by rw [List.length_append]; omega) (fun j => ?_) (fun b o eo => c11 b o (ne_of_none eo nf) (s610 b o (s06 b o eo)))
      rw [List.mem_append, hfs', hks, end_op hk]
      refine or_congr_right ?_
      constructor
      · rintro ⟨i3, h3, h4⟩
        obtain ⟨i1, h1, i2, h2, h3⟩ := (hgs _).mp h3
        exact ⟨i1, h1, i2, h2, i3, h3, h4⟩
      · rintro ⟨i1, h1, i2, h2, i3, h3, h4⟩
        exact ⟨i3, (hgs _).mpr ⟨i1, h1, i2, h2, h3⟩, h4⟩
  | whn a b c =>
    walk_at "gg"
    refine ⟨ra, us, R, i, _, a, b, c, d, dom, ws, want, rfl, h6, hm, .inr hw, fun l7 gs H7 n7 e7 hgl hgs s7 => ?_⟩
    walk_at "gg"
    refine g_extend (s7 _ _ e6) e7 (by simp only [List.length_map]; show _ ≤ 16777216; omega) ?_
    walk_at "gg"
    rename_i H11 e11 c11
    refine fin (gs := fs ++ gs) (by rw [e11, ← List.map_append]) (by rw [List.length_append]; omega) (fun j => ?_) (fun b o eo => c11 b o (ne_of_none eo nf) (s7 b o (s06 b o eo)))
    rw [List.mem_append, hfs', hgs, end_when]
  | letp r a =>
    obtain ⟨pa', ra', rs', u, epa, ea0, er0, tr0, tb⟩ := letTp h.tv
    cases epa
    have e : (Part.letp r a).deep = 1 + max r.deep a.deep := rfl
    walk_at "gg"
    refine g_seqL ?_
    walk_at "gg"
    rename_i l7 H7 n7 e7 s7
    have h7 := h6.same s7
    refine ⟨_, r, a, d, dom, ws, rfl, h7.tv, h7.pre, hd12, fun l8 us8 H8 n8 e8 tu8 s8 => ?_⟩
    have h8 := h7.same s8
    have hol := opened_len ws r
    have e22 : (Part.letp r a).size = 1 + (r.size + a.size) := rfl
    walk_at "gg"
    refine ⟨ra, l7, l8, us, _, R, r.opened ws, [i], rfl, h8.er, h8.tr, s8 _ _ e7, e8, tu8, by omega, opened_due ws r, by simp, fun l9 os H9 n9 e9 hol9 hos s9 => ?_⟩
    rw [List.length_singleton] at hol9
    have s69 := s7.trans (s8.trans s9)
    have hos' : ∀ j, j ∈ os ↔ StandAt R (r.opened ws) i j := fun j => by
      rw [hos]
      exact ⟨fun ⟨i', hi', h⟩ => List.mem_singleton.mp hi' ▸ h, fun h => ⟨i, by simp, h⟩⟩
    have nfl9 : l9 ≠ fl := fun z => by
      have := s8.free n9
      rw [z, s7 _ _ e6] at this
      cases this
    walk_at "gg"
    refine for_L (xs := natsV os) (fun n σ H' => ∃ (x8 : Option V) (gs : List Nat), σ = [some (.ref ra), some (.int (i : Nat)), some (.ref pa), some (.str want), some (.ref d), some (.str "let"), some (.ref fl), none, x8] ∧ H' fl = some (.lst (natsV (fs ++ gs))) ∧ gs.length ≤ n ∧ (∀ j, j ∈ gs ↔ ∃ i1 ∈ os.take n, EndAt ws R a want i1 j) ∧ Same H H' ∧ H' l9 = some (.lst (natsV os)))
      (fun n σ H' ⟨_, _, _, _, _, _, _, s⟩ => s) ⟨none, [], rfl, by rw [List.append_nil]; exact s69 _ _ e6, Nat.le_refl _, by simp, s06.trans s69, e9⟩ ?_ ?_
    · rintro n x σ H10 hx ⟨x8, gs, rfl, ef, hgl, hgs, s10, eos⟩
      rw [List.getElem?_map] at hx
      obtain ⟨i1, hi1, rfl⟩ := Option.map_eq_some_iff.mp hx
      have hn : n < os.length := (List.getElem?_eq_some_iff.mp hi1).1
      have ea10 := s10 _ _ ea0
      have h10 := h.same s10
      walk_at "gg"
      refine ⟨ra, us, R, i1, u, a, d, dom, ws, want, rfl, ⟨h10.er, h10.tr, tb.mono (Same.tk s10), h.pre.letb s10, h.wok⟩, by omega, hw, fun l11 es H11 n11 e11 hes he s11 => ?_⟩
      walk_at "gg"
      refine g_extend (s11 _ _ ef) e11 (by simp only [List.length_map, List.length_append]; show _ ≤ 16777216; omega) ?_
      walk_at "gg"
      rename_i H12 e12 c12
      refine ⟨_, gs ++ es, rfl, by rw [e12, ← List.append_assoc, ← List.map_append], by rw [List.length_append]; omega, fun j => ?_, fun b o eo => c12 b o (ne_of_none eo nf) (s11 b o (s10 b o eo)), c12 _ _ nfl9 (s11 _ _ eos)⟩
      rw [List.mem_append, hgs, he, List.take_add_one, hi1, Option.toList_some]
      constructor
      · rintro (⟨i', h1, h2⟩ | h2)
        · exact ⟨i', List.mem_append_left _ h1, h2⟩
        · exact ⟨i1, by simp, h2⟩
      · rintro ⟨i', h1, h2⟩
        rcases List.mem_append.mp h1 with h1 | h1
        · exact .inl ⟨i', h1, h2⟩
        · rw [List.mem_singleton.mp h1] at h2; exact .inr h2
    · rintro σ H10 ⟨x8, gs, rfl, ef, hgl, hgs, s10, eos⟩
      rw [List.length_map] at hgl hgs
      rw [List.take_length] at hgs
      walk_at "gg"
      refine fin ef (by rw [List.length_append]; omega) (fun j => ?_) s10
      rw [List.mem_append, hfs', hgs]
      constructor
      · rintro (h1 | ⟨i1, h1, h2⟩)
        · exact ⟨_, .bld _ _, h1.1, h1.2⟩
        · exact end_let.mpr ⟨i1, (hos' _).mp h1, h2⟩
      · intro h1
        obtain ⟨i1, h2, h3⟩ := end_let.mp h1
        exact .inr ⟨i1, (hos' _).mpr h2, h3⟩
end

/-! ### endings, judged -/
section
variable {K : PySem.W.Frag} {w : World} {m : Nat}
theorem pure_endings (TO : OPSR K) (TS : SIDESR K) : PureOk 4 (spEndings (m + 1)) (t_endings K w spBehind (spBuild 12) (spSums m) (spTurns m) (spSides m) (spOpen 11) (spEndings m)) 7 := by
  refine ⟨fun vs H Q E ⟨_, _, _, _, _, _, _, _, _, e, _⟩ => by rw [e]; rfl, ?_⟩
  rintro vs H Q E ⟨ra, us, R, i, v, p, d, dom, ws, rfl, h, hm, q⟩
  show t_endings K w _ _ _ _ _ _ _ _ [some (.ref ra), some (.int (i : Nat)), some v, some (.ref d), none, none, none] H
  unfold t_endings
  have hz := h.pre.z
  have hd12 := h.pre.g.2
  obtain ⟨pa, xs, rfl, ea, tx⟩ := id h.tv.part
  walk_at "gg"
  rename_i l1 H1 n1 e1 s1
  have h1 := h.same s1
  refine ⟨_, p, d, dom, ws, rfl, h1.tv, h1.pre, hd12, fun l2 us2 H2 nl2 el2 tu2 s2 => ?_⟩
  have hul : us2.length ≤ 1000 := by rw [tu2.length]; have := p.bld_len ws; omega
  walk_at "gg"
  have s05 := s1.trans s2
  have h5 := h.same s05
  refine ⟨ra, l1, l2, us, _, R, p.bld ws, [i], rfl, h5.er, h5.tr, s2 _ _ e1, el2, tu2, by rw [← tu2.length]; exact hul, p.bld_due ws, by simp, fun fl fs H6 n6 e6 hfl hfs s6 => ?_⟩
  have hfs' : ∀ j, j ∈ fs ↔ StandAt R (p.bld ws ++ afterD "") i j := fun j => by
    rw [hfs, show p.bld ws ++ afterD "" = p.bld ws from List.append_nil _]
    exact ⟨fun ⟨i', hi', h⟩ => List.mem_singleton.mp hi' ▸ h, fun h => ⟨i, by simp, h⟩⟩
  have s06 := s05.trans s6
  have h6 := h.same s06
  have ea6 := s06 _ _ ea
  have nf : H fl = none := s05.free n6
  have huq : ∀ j j', EndAt ws R p "" i j → EndAt ws R p "" i j' → j = j' := fun j j' a b => EndAt.one h.wok.b h.pre.n a b
  clear hfs
  rw [List.length_singleton] at hfl
  have fin : ∀ {Hn : Hp} {gs : List Nat}, Hn fl = some (.lst (natsV gs)) → gs.length ≤ 1000 → (∀ j, j ∈ gs ↔ EndAt ws R p "" i j) → Same H Hn → rSetLI K w [.ref fl] Hn fun x H1 => rSortSet w [x] H1 Q := by
    intro Hn gs en hgl hgs sn
    refine g_sortset en hgl hgs huq fun l es H7 n7 e7 hes he s7 => ?_
    exact q l es H7 (sn.free n7) e7 hes he (sn.trans s7)
  by_cases hb : p.isBlt = true
  · obtain ⟨f1, f2, f3, f4, f5⟩ := blt_facts hb
    walk_at "gg"
    refine g_inGT TO rfl f1 ?_
    walk_at "gg"
    refine g_F f2 ?_
    walk_at "gg"
    refine g_inGT TS rfl f3 ?_
    walk_at "gg"
    refine g_F f4 ?_
    walk_at "gg"
    exact fin e6 (by omega) (fun j => by rw [hfs', end_blt hb]) s06
  cases p with
  | shut a => exact h.pre.n.elim
  | num n => exact absurd rfl hb
  | name n => exact absurd rfl hb
  | fn n => exact absurd rfl hb
  | one k a =>
    walk_at "gg"
    refine g_inGT (r := false) TO rfl (by show inV (.str k.word) _ = false; cases k <;> decide +kernel) ?_
    walk_at "gg"
    refine g_F (by show decide (k.word = "when") = false; cases k <;> decide +kernel) ?_
    walk_at "gg"
    refine g_inGT (r := true) TS rfl (by show inV (.str k.word) _ = true; cases k <;> decide +kernel) ?_
    walk_at "gg"
    refine ⟨ra, us, R, i, _, k, a, d, dom, ws, rfl, h6, hm, fun l7 gs H7 n7 e7 hgl hgs s7 => ?_⟩
    walk_at "gg"
    refine g_extend (s7 _ _ e6) e7 (by simp only [List.length_map]; show _ ≤ 16777216; omega) ?_
    walk_at "gg"
    rename_i H11 e11 c11
    refine fin (gs := fs ++ gs) (by rw [e11, ← List.map_append]) (by rw [List.length_append]; omega) (fun j => ?_) (fun b o eo => c11 b o (ne_of_none eo nf) (s7 b o (s06 b o eo)))
    rw [List.mem_append, hfs', hgs, end_one]
    refine or_congr_right ?_
    constructor
    · rintro ⟨i1, h1, h2⟩
      exact ⟨i1, h1, _, h2, List.nil_prefix, rfl⟩
    · rintro ⟨i1, h1, i2, h2, _, rfl⟩
      exact ⟨i1, h1, h2⟩
  | two k a b =>
    have hk : k.isOp = true := by
      cases e : k.isOp
      · exact absurd (show (!k.isOp) = true from by rw [e]; rfl) hb
      · rfl
    walk_at "gg"
    refine g_inGT (r := true) TO rfl ((op_in k).trans hk) ?_
    walk_at "gg"
    refine ⟨ra, us, R, i, _, k, a, b, d, dom, ws, rfl, h6, hm, fun l7 gs H7 n7 e7 hgl hgs s7 => ?_⟩
    walk_at "gg"
    refine g_extend (s7 _ _ e6) e7 (by simp only [List.length_map]; show _ ≤ 16777216; omega) ?_
    walk_at "gg"
    rename_i H11 e11 c11
    refine fin (gs := fs ++ gs) (by rw [e11, ← List.map_append]) (by rw [List.length_append]; omega) (fun j => ?_) (fun b o eo => c11 b o (ne_of_none eo nf) (s7 b o (s06 b o eo)))
    rw [List.mem_append, hfs', hgs, end_op hk]
    refine or_congr_right ?_
    constructor
    · rintro ⟨i1, h1, i2, h2, h3⟩
      exact ⟨i1, h1, i2, h2, _, h3, List.nil_prefix, rfl⟩
    · rintro ⟨i1, h1, i2, h2, i3, h3, _, rfl⟩
      exact ⟨i1, h1, i2, h2, h3⟩
  | whn a b c =>
    walk_at "gg"
    refine ⟨ra, us, R, i, _, a, b, c, d, dom, ws, "", rfl, h6, hm, .inl rfl, fun l7 gs H7 n7 e7 hgl hgs s7 => ?_⟩
    walk_at "gg"
    refine g_extend (s7 _ _ e6) e7 (by simp only [List.length_map]; show _ ≤ 16777216; omega) ?_
    walk_at "gg"
    rename_i H11 e11 c11
    refine fin (gs := fs ++ gs) (by rw [e11, ← List.map_append]) (by rw [List.length_append]; omega) (fun j => ?_) (fun b o eo => c11 b o (ne_of_none eo nf) (s7 b o (s06 b o eo)))
    rw [List.mem_append, hfs', hgs, end_when]
  | letp r a =>
    obtain ⟨pa', ra', rs', u, epa, ea0, er0, tr0, tb⟩ := letTp h.tv
    cases epa
    have e : (Part.letp r a).deep = 1 + max r.deep a.deep := rfl
    walk_at "gg"
    refine g_seqL ?_
    walk_at "gg"
    rename_i l7 H7 n7 e7 s7
    have h7 := h6.same s7
    refine ⟨_, r, a, d, dom, ws, rfl, h7.tv, h7.pre, hd12, fun l8 us8 H8 n8 e8 tu8 s8 => ?_⟩
    have h8 := h7.same s8
    have hol := opened_len ws r
    have e22 : (Part.letp r a).size = 1 + (r.size + a.size) := rfl
    walk_at "gg"
    refine ⟨ra, l7, l8, us, _, R, r.opened ws, [i], rfl, h8.er, h8.tr, s8 _ _ e7, e8, tu8, by omega, opened_due ws r, by simp, fun l9 os H9 n9 e9 hol9 hos s9 => ?_⟩
    rw [List.length_singleton] at hol9
    have s69 := s7.trans (s8.trans s9)
    have hos' : ∀ j, j ∈ os ↔ StandAt R (r.opened ws) i j := fun j => by
      rw [hos]
      exact ⟨fun ⟨i', hi', h⟩ => List.mem_singleton.mp hi' ▸ h, fun h => ⟨i, by simp, h⟩⟩
    have nfl9 : l9 ≠ fl := fun z => by
      have := s8.free n9
      rw [z, s7 _ _ e6] at this
      cases this
    walk_at "gg"
    refine for_L (xs := natsV os) (fun n σ H' => ∃ (x8 : Option V) (gs : List Nat), σ = [some (.ref ra), some (.int (i : Nat)), some (.ref pa), some (.ref d), some (.str "let"), some (.ref fl), x8] ∧ H' fl = some (.lst (natsV (fs ++ gs))) ∧ gs.length ≤ n ∧ (∀ j, j ∈ gs ↔ ∃ i1 ∈ os.take n, EndAt ws R a "" i1 j) ∧ Same H H' ∧ H' l9 = some (.lst (natsV os)))
      (fun n σ H' ⟨_, _, _, _, _, _, _, s⟩ => s) ⟨none, [], rfl, by rw [List.append_nil]; exact s69 _ _ e6, Nat.le_refl _, by simp, s06.trans s69, e9⟩ ?_ ?_
    · rintro n x σ H10 hx ⟨x8, gs, rfl, ef, hgl, hgs, s10, eos⟩
      rw [List.getElem?_map] at hx
      obtain ⟨i1, hi1, rfl⟩ := Option.map_eq_some_iff.mp hx
      have hn : n < os.length := (List.getElem?_eq_some_iff.mp hi1).1
      have ea10 := s10 _ _ ea0
      have h10 := h.same s10
      walk_at "gg"
      refine ⟨ra, us, R, i1, u, a, d, dom, ws, rfl, ⟨h10.er, h10.tr, tb.mono (Same.tk s10), h.pre.letb s10, h.wok⟩, by omega, fun l11 es H11 n11 e11 hes he s11 => ?_⟩
      walk_at "gg"
      refine g_extend (s11 _ _ ef) e11 (by simp only [List.length_map, List.length_append]; show _ ≤ 16777216; omega) ?_
      walk_at "gg"
      rename_i H12 e12 c12
      refine ⟨_, gs ++ es, rfl, by rw [e12, ← List.append_assoc, ← List.map_append], by rw [List.length_append]; omega, fun j => ?_, fun b o eo => c12 b o (ne_of_none eo nf) (s11 b o (s10 b o eo)), c12 _ _ nfl9 (s11 _ _ eos)⟩
      rw [List.mem_append, hgs, he, List.take_add_one, hi1, Option.toList_some]
      constructor
      · rintro (⟨i', h1, h2⟩ | h2)
        · exact ⟨i', List.mem_append_left _ h1, h2⟩
        · exact ⟨i1, by simp, h2⟩
      · rintro ⟨i', h1, h2⟩
        rcases List.mem_append.mp h1 with h1 | h1
        · exact .inl ⟨i', h1, h2⟩
        · rw [List.mem_singleton.mp h1] at h2; exact .inr h2
    · rintro σ H10 ⟨x8, gs, rfl, ef, hgl, hgs, s10, eos⟩
      rw [List.length_map] at hgl hgs
      rw [List.take_length] at hgs
      walk_at "gg"
      refine fin ef (by rw [List.length_append]; omega) (fun j => ?_) s10
      rw [List.mem_append, hfs', hgs]
      constructor
      · rintro (h1 | ⟨i1, h1, h2⟩)
        · exact ⟨_, .bld _ _, h1.1, h1.2⟩
        · exact end_let.mpr ⟨i1, (hos' _).mp h1, h2⟩
      · intro h1
        obtain ⟨i1, h2, h3⟩ := end_let.mp h1
        exact .inr ⟨i1, (hos' _).mpr h2, h3⟩
end

/-! ### whether anything is rows of a function -/
/-- rows that a function's body asks, and back behind -/
def LetBy (ws : Str → Way) (p : Part) (d : PyData) : Prop := ∃ x, d = .tuple (x ++ [backD]) ∧ DoneR ws p "" x
def spLetsBy : Sp := fun vs H Q _ => ∃ (v t : V) (P : Prog) (f : Str) (j : Nat) (p : Part) (ts : List Str) (d : PyData), vs = [v, .str f, t] ∧ Tp H v P.data ∧ P.fine ∧ FnAt P f j p ts ∧ Jq H t d ∧
  ∀ (b : Bool) (H' : Hp), (b = true ↔ LetBy (waysOf ts p) p d) → Same H H' → Q (.bl b) H'
theorem cut_init {xs : List V} {n : Nat} (h : xs.length = n + 1) : cutV xs none (some (-1)) = xs.take n := by
  unfold cutV HT.sIx
  simp only [List.drop_zero, Nat.sub_zero]
  rw [if_pos (by decide)]
  congr 1
  omega
theorem at_last {xs : List V} {n : Nat} {v : V} (h : xs.length = n + 1) (e : xs[n]? = some v) : atI xs (-1) = some v := by
  have hi : ixN xs.length (-1) = some n := by
    unfold ixN
    rw [h]
    simp
    omega
  unfold atI
  rw [hi]
  exact e
theorem pure_letsby {K : PySem.W.Frag} {w : World} : PureOk 3 spLetsBy (t_lets_by K w (spAlike 3) spHouse (spIsOne 12)) 5 := by
  refine ⟨fun vs H Q E ⟨_, _, _, _, _, _, _, _, e, _⟩ => by rw [e]; rfl, ?_⟩
  rintro vs H Q E ⟨v, t, P, f, j, p, ts, d, rfl, tP, hfine, hA, ht, q⟩
  show t_lets_by K w _ _ _ _ [some v, some (.str f), some t, none, none] H
  unfold t_lets_by
  walk_at "gg"
  refine g_isi ht.ty (kit_tuple ht) ?_
  walk_at "gg"
  have no : ∀ {d : PyData}, isTupD d = false → ∀ {b : Bool}, b = false → (b = true ↔ LetBy (waysOf ts p) p d) := fun hd b hb => ⟨fun h => (by rw [hb] at h; cases h), fun ⟨x, e, _⟩ => (by rw [e] at hd; cases hd)⟩
  cases ht with
  | str x => exact g_T rfl (by walk_at "gg"; exact q false H (no rfl rfl) (.refl _))
  | non => exact g_T rfl (by walk_at "gg"; exact q false H (no rfl rfl) (.refl _))
  | bl b => exact g_T rfl (by walk_at "gg"; exact q false H (no rfl rfl) (.refl _))
  | int i => exact g_T rfl (by walk_at "gg"; exact q false H (no rfl rfl) (.refl _))
  | lst e => exact g_T rfl (by walk_at "gg"; exact q false H (no rfl rfl) (.refl _))
  | @tup a xs ds ea txs =>
    refine g_F rfl ?_
    walk_at "gg"
    rename_i a1 H1 n1 e1 s1
    have ea1 := s1 _ _ ea
    refine g_eqT ea1 e1 ?_
    walk_at "gg"
    cases hx : xs with
    | nil =>
      rw [hx] at txs
      cases txs
      refine g_T rfl ?_
      walk_at "gg"
      refine q false H1 ⟨fun h => (by cases h), fun ⟨x, e, _⟩ => ?_⟩ s1
      have := PyData.tuple.inj e
      simp at this
    | cons x0 xs0 =>
      have hlen : xs.length = xs0.length + 1 := by rw [hx]; rfl
      generalize xs0.length = n at hlen
      refine g_F rfl ?_
      have hat : xs[n]? = some xs[n] := List.getElem?_eq_getElem (by omega)
      obtain ⟨dl, hdl, tl⟩ := txs.at hat
      have hds : ds = ds.take n ++ [dl] := by
        have hl := txs.length
        have h1 := (List.take_append_drop n ds).symm
        have h2 : ds.drop n = [dl] := by
          rw [List.drop_eq_getElem_cons (by omega), List.drop_eq_nil_of_le (by omega)]
          have := (List.getElem?_eq_some_iff.mp hdl).2
          rw [this]
        rw [h2] at h1
        exact h1
      walk_at "gg"
      refine g_ixT (.of ea1) (v := xs[n]) (at_last hlen hat) ?_
      walk_at "gg"
      rename_i a2 H2 n2 e2 s2
      have s02 := s1.trans s2
      refine ⟨_, _, dl, backD, rfl, tl.mono (Same.tj s02), .tup e2 (.one (.str _)), due1.up, fun b H3 hb s3 => ?_⟩
      have s03 := s02.trans s3
      refine ⟨b, rfl, ?_⟩
      refine g_ite (fun hn => ?_) (fun hn => ?_)
      · have hb0 : b = false := by
          cases b with
          | false => rfl
          | true => cases hn
        walk_at "gg"
        refine q false H3 ⟨fun h => (by cases h), fun ⟨x, e, _⟩ => ?_⟩ s03
        have e' := PyData.tuple.inj e
        rw [hds] at e'
        have := (List.append_inj_right' e' rfl)
        injection this with this _
        rw [hb.mpr this] at hb0
        cases hb0
      · have hb1 : b = true := by
          cases b with
          | true => rfl
          | false => cases hn
        obtain rfl := hb.mp hb1
        walk_at "gg"
        refine ⟨v, P, f, j, p, ts, rfl, tP.mono (Same.tk s03), hfine, hA, fun ha hd v1 H4 e4 t4 w4 s4 => ?_⟩
        have s04 := s03.trans s4
        walk_at "gg"
        refine g_slJ (s04 _ _ ea) fun c H5 e5 s5 => ?_
        rw [cut_init hlen] at e5
        have s05 := s04.trans s5
        walk_at "gg"
        refine ⟨c, _, ds.take n, v1, p, hd, _, _, "", rfl, ⟨e5, (txs.mono (Same.tj s05)).take n, t4.mono (Same.tk s5), (hA.pre w4).same s5, hA.wsok⟩, hA.deep, .inl rfl, fun b2 H6 hb2 s6 => ?_⟩
        refine q b2 H6 ?_ (s05.trans s6)
        rw [hb2]
        constructor
        · intro h
          exact ⟨_, by rw [← hds], h⟩
        · rintro ⟨x, e, h⟩
          have e' := PyData.tuple.inj e
          rw [hds] at e'
          have := (List.append_inj_left' e' rfl)
          rw [this]
          exact h

/-! ### what is shown tells the data -/
theorem ofS_tl (s : String) : (Str.ofString s).cps.toList = s.toList.map Char.toNat := by
  rw [Str.ofString_eq_toList]
theorem numT_nat (m : Nat) : (numS (m : Int)).cps.toList = TL.numL m := TL.tl_num m
theorem numT_neg (m : Nat) : (numS (Int.negSucc m)).cps.toList = 45 :: TL.numL (m + 1) := by
  have h3 : toString (Int.negSucc m) = "-" ++ toString ((m + 1 : Nat) : Int) := rfl
  unfold numS
  rw [h3, ofS_tl, String.toList_append, List.map_append]
  have h4 := TL.tl_num (m + 1)
  have h5 : (Str.ofString (toString ((m + 1 : Nat) : Int))).cps.toList = TL.numL (m + 1) := h4
  rw [ofS_tl] at h5
  rw [h5]
  rfl
mutual
def Nice : PyData → Prop
  | .none => True
  | .bool _ => True
  | .int _ => True
  | .str x => ∀ c ∈ x.cps.toList, 97 ≤ c ∧ c ≤ 122
  | .tuple ds => Nices ds
  | .list ds => Nices ds
  | .dict _ => False
def Nices : List PyData → Prop
  | [] => True
  | d :: ds => Nice d ∧ Nices ds
end
mutual
def txt : PyData → List Nat
  | .none => [78, 111, 110, 101]
  | .bool b => if b = true then [84, 114, 117, 101] else [70, 97, 108, 115, 101]
  | .int n => (numS n).cps.toList
  | .str x => 39 :: (x.cps.toList ++ [39])
  | .tuple ds => 40 :: (txts ds ++ if ds.length = 1 then [44, 41] else [41])
  | .list ds => 91 :: (txts ds ++ [93])
  | .dict _ => []
def txts : List PyData → List Nat
  | [] => []
  | d :: ds => txt d ++ mores ds
def mores : List PyData → List Nat
  | [] => []
  | d :: ds => 44 :: 32 :: (txt d ++ mores ds)
end
theorem char_self {c : Nat} (h : 97 ≤ c ∧ c ≤ 122) : Builtin.Str.reprChar 39 c = [c] := by
  have : ∀ k : Fin 26, Builtin.Str.reprChar 39 (97 + k.val) = [97 + k.val] := by decide +kernel
  have h2 := this ⟨c - 97, by omega⟩
  simp only [show 97 + (c - 97) = c from by omega] at h2
  exact h2
theorem fold_self : ∀ (l : List Nat) (acc : Array Nat), (∀ c ∈ l, 97 ≤ c ∧ c ≤ 122) → (l.foldl (fun out c => out ++ (Builtin.Str.reprChar 39 c).toArray) acc).toList = acc.toList ++ l
  | [], acc, _ => by simp
  | c :: l, acc, h => by
    rw [List.foldl_cons, fold_self l _ fun x hx => h x (by simp [hx]), char_self (h c (by simp))]
    simp
theorem repr_nice {x : Str} (h : ∀ c ∈ x.cps.toList, 97 ≤ c ∧ c ≤ 122) : (reprText x).cps.toList = 39 :: (x.cps.toList ++ [39]) := by
  have hq : reprQuote x = 39 := by
    unfold reprQuote
    rw [if_neg]
    rw [Bool.and_eq_true]
    rintro ⟨h1, _⟩
    have := h 39 (by simpa using h1)
    omega
  unfold reprText
  rw [hq]
  rw [← Array.foldl_toList]
  rw [Array.toList_push, fold_self _ _ h]
  simp
theorem all_tl : ∀ {ds : List PyData}, (∀ d ∈ ds, d.shown.cps.toList = txt d) → (Str.join ", " (PyData.shownAll ds)).cps.toList = txts ds
  | [], _ => rfl
  | [d], h => by
    rw [PyData.shownAll_cons, PyData.shownAll_nil]
    show d.shown.cps.toList = txt d ++ []
    rw [h d (by simp), List.append_nil]
  | d :: e :: ds, h => by
    have ih := all_tl (ds := e :: ds) fun x hx => h x (by simp [hx])
    rw [PyData.shownAll_cons, PyData.shownAll_cons]
    rw [PyData.shownAll_cons] at ih
    show (d.shown ++ (", " : Str) ++ Str.join ", " (e.shown :: PyData.shownAll ds)).cps.toList = txt d ++ (44 :: 32 :: (txt e ++ mores ds))
    have e1 : ∀ a b : Str, (a ++ b).cps.toList = a.cps.toList ++ b.cps.toList := fun a b => TL.tl_append a b
    rw [e1, e1, ih, h d (by simp), List.append_assoc]
    rfl
mutual
theorem shown_txt : ∀ {d : PyData}, Nice d → d.shown.cps.toList = txt d
  | .none, _ => by rw [PyData.shown_none]; decide +kernel
  | .bool b, _ => by rw [PyData.shown_bool]; cases b <;> decide +kernel
  | .int n, _ => by rw [PyData.shown_int]; rfl
  | .str x, h => by rw [PyData.shown_str]; exact repr_nice h
  | .tuple ds, h => by
    have e1 : ∀ a b : Str, (a ++ b).cps.toList = a.cps.toList ++ b.cps.toList := fun a b => TL.tl_append a b
    rw [PyData.shown_tuple, e1, e1, all_tl (shown_txts h)]
    have h1 : (("(" : Str)).cps.toList = [40] := by decide +kernel
    have h2 : ((",)" : Str)).cps.toList = [44, 41] := by decide +kernel
    have h3 : ((")" : Str)).cps.toList = [41] := by decide +kernel
    rw [h1, List.append_assoc]
    show _ = 40 :: (txts ds ++ if ds.length = 1 then [44, 41] else [41])
    by_cases hl : ds.length = 1
    · rw [if_pos hl, if_pos (by simp [hl]), h2]
      rfl
    · rw [if_neg hl, if_neg (by simp [hl]), h3]
      rfl
  | .list ds, h => by
    have e1 : ∀ a b : Str, (a ++ b).cps.toList = a.cps.toList ++ b.cps.toList := fun a b => TL.tl_append a b
    rw [PyData.shown_list, e1, e1, all_tl (shown_txts h)]
    show [91] ++ txts ds ++ [93] = 91 :: (txts ds ++ [93])
    rw [List.append_assoc]
    rfl
  | .dict ds, h => h.elim
theorem shown_txts : ∀ {ds : List PyData}, Nices ds → ∀ d ∈ ds, d.shown.cps.toList = txt d
  | [], _, d, hd => by cases hd
  | d :: ds, h, e, he => (List.mem_cons.mp he).elim (fun q => by rw [q]; exact shown_txt h.1) fun q => shown_txts h.2 e q
end
/-- what a first sign tells -/
def signK (c : Nat) : Nat := if c = 78 then 0 else if c = 84 ∨ c = 70 then 1 else if c = 45 ∨ (48 ≤ c ∧ c ≤ 57) then 2 else if c = 39 then 3 else if c = 40 then 4 else if c = 91 then 5 else 9
def kindK : PyData → Nat
  | .none => 0
  | .bool _ => 1
  | .int _ => 2
  | .str _ => 3
  | .tuple _ => 4
  | .list _ => 5
  | .dict _ => 6
def numSign (c : Nat) : Prop := c = 45 ∨ (48 ≤ c ∧ c ≤ 57)
theorem num_signs (n : Int) : ∀ c ∈ (numS n).cps.toList, numSign c := by
  cases n with
  | ofNat m =>
    intro c hc
    rw [show (Int.ofNat m) = (m : Int) from rfl, numT_nat] at hc
    exact .inr (TL.numL_digits m c hc)
  | negSucc m =>
    intro c hc
    rw [numT_neg] at hc
    rcases List.mem_cons.mp hc with rfl | hc
    · exact .inl rfl
    · exact .inr (TL.numL_digits _ c hc)
theorem num_ne (n : Int) : ∃ c t, (numS n).cps.toList = c :: t ∧ numSign c := by
  cases e : (numS n).cps.toList with
  | nil =>
    cases n with
    | ofNat m =>
      rw [show (Int.ofNat m) = (m : Int) from rfl, numT_nat] at e
      exact absurd e (TL.numL_ne m)
    | negSucc m =>
      rw [numT_neg] at e
      cases e
  | cons c t => exact ⟨c, t, rfl, num_signs n c (by rw [e]; simp)⟩
theorem numS_inj {m n : Int} (h : (numS m).cps.toList = (numS n).cps.toList) : m = n := by
  have no : ∀ (a b : Nat), TL.numL a ≠ 45 :: TL.numL b := fun a b e => by
    have := TL.numL_digits a 45 (by rw [e]; simp)
    have h2 : 48 ≤ 45 ∧ 45 ≤ 57 := this
    omega
  cases m with
  | ofNat a =>
    cases n with
    | ofNat b =>
      rw [show (Int.ofNat a) = (a : Int) from rfl, show (Int.ofNat b) = (b : Int) from rfl, numT_nat, numT_nat] at h
      rw [TL.numL_inj h]
    | negSucc b =>
      rw [show (Int.ofNat a) = (a : Int) from rfl, numT_nat, numT_neg] at h
      exact absurd h (no _ _)
  | negSucc a =>
    cases n with
    | ofNat b =>
      rw [show (Int.ofNat b) = (b : Int) from rfl, numT_nat, numT_neg] at h
      exact absurd h.symm (no _ _)
    | negSucc b =>
      rw [numT_neg, numT_neg] at h
      have := TL.numL_inj (List.cons.inj h).2
      rw [Nat.succ.inj this]
theorem txt_head {d : PyData} (h : Nice d) : ∃ c t, txt d = c :: t ∧ signK c = kindK d := by
  cases d with
  | none => exact ⟨_, _, rfl, rfl⟩
  | bool b => cases b <;> exact ⟨_, _, rfl, rfl⟩
  | int n =>
    obtain ⟨c, t, e, hc⟩ := num_ne n
    refine ⟨c, t, e, ?_⟩
    unfold signK
    have : ¬ c = 78 := by rcases hc with rfl | h <;> omega
    have h2 : ¬ (c = 84 ∨ c = 70) := by rcases hc with rfl | h <;> omega
    rw [if_neg this, if_neg h2, if_pos (show c = 45 ∨ (48 ≤ c ∧ c ≤ 57) from hc)]
    rfl
  | str x => exact ⟨_, _, rfl, rfl⟩
  | tuple ds => exact ⟨_, _, rfl, rfl⟩
  | list ds => exact ⟨_, _, rfl, rfl⟩
  | dict ds => exact h.elim
/-- a text is over: nothing, a comma or a closing sign -/
def Stop (r : List Nat) : Prop := r = [] ∨ ∃ c t, r = c :: t ∧ (c = 44 ∨ c = 41 ∨ c = 93)
/-- a row of texts is over -/
def EndL (r : List Nat) : Prop := ∃ c t, r = c :: t ∧ (c = 41 ∨ c = 93 ∨ (c = 44 ∧ ∃ t', t = 41 :: t'))
theorem EndL.stop {r : List Nat} (h : EndL r) : Stop r := by
  obtain ⟨c, t, e, h⟩ := h
  exact .inr ⟨c, t, e, by rcases h with h | h | h; exact .inr (.inl h); exact .inr (.inr h); exact .inl h.1⟩
theorem split_all {p : Nat → Prop} : ∀ {a b r s : List Nat}, (∀ c ∈ a, p c) → (∀ c ∈ b, p c) → (∀ c t, r = c :: t → ¬ p c) → (∀ c t, s = c :: t → ¬ p c) → a ++ r = b ++ s → a = b ∧ r = s
  | [], [], r, s, _, _, _, _, e => ⟨rfl, e⟩
  | [], c :: b, r, s, _, hb, hr, _, e => absurd (hb c (by simp)) (hr c _ e)
  | c :: a, [], r, s, ha, _, _, hs, e => absurd (ha c (by simp)) (hs c _ e.symm)
  | c :: a, c' :: b, r, s, ha, hb, hr, hs, e => by
    obtain ⟨h1, h2⟩ := List.cons.inj e
    obtain ⟨h3, h4⟩ := split_all (a := a) (b := b) (fun x hx => ha x (by simp [hx])) (fun x hx => hb x (by simp [hx])) hr hs h2
    exact ⟨by rw [h1, h3], h4⟩
theorem Stop.num {r : List Nat} (h : Stop r) : ∀ c t, r = c :: t → ¬ numSign c := fun c t e => by
  rcases h with rfl | ⟨c', t', rfl, h⟩
  · cases e
  · obtain ⟨rfl, _⟩ := List.cons.inj e
    unfold numSign
    omega
theorem mores_stop {ds : List PyData} {u : List Nat} (h : EndL u) : Stop (mores ds ++ u) := by
  cases ds with
  | nil => exact h.stop
  | cons d ds => exact .inr ⟨44, _, rfl, .inl rfl⟩
theorem tail_end (ds : List PyData) (r : List Nat) : EndL ((if ds.length = 1 then [44, 41] else [41]) ++ r) := by
  split
  · exact ⟨44, _, rfl, .inr (.inr ⟨rfl, _, rfl⟩)⟩
  · exact ⟨41, _, rfl, .inl rfl⟩
theorem no_head {e : PyData} {es : List PyData} {u v : List Nat} (he : Nice e) (hu : EndL u) : u ≠ txts (e :: es) ++ v := fun h => by
  obtain ⟨c, t, rfl, hc⟩ := hu
  obtain ⟨c', t', e', hk⟩ := txt_head he
  rw [show txts (e :: es) = txt e ++ mores es from rfl, e'] at h
  obtain ⟨rfl, _⟩ := List.cons.inj h
  have : signK c = 9 := by rcases hc with rfl | rfl | ⟨rfl, _⟩ <;> rfl
  rw [this] at hk
  cases e <;> first | (exact he.elim) | (cases hk)
mutual
theorem txt_inj : ∀ {d : PyData}, Nice d → ∀ {e : PyData}, Nice e → ∀ {r s : List Nat}, Stop r → Stop s → txt d ++ r = txt e ++ s → d = e ∧ r = s
  | d, hd, e, he, r, s, hr, hs, h => by
    have hk : kindK d = kindK e := by
      obtain ⟨c, t, e1, k1⟩ := txt_head hd
      obtain ⟨c', t', e2, k2⟩ := txt_head he
      rw [e1, e2] at h
      obtain ⟨rfl, _⟩ := List.cons.inj h
      rw [← k1, ← k2]
    match d, e, hd, he, hk, h with
    | .none, .none, _, _, _, h => exact ⟨rfl, List.append_cancel_left h⟩
    | .bool a, .bool b, _, _, _, h =>
      cases a <;> cases b <;> first | (exact ⟨rfl, List.append_cancel_left h⟩) | (exact absurd (List.cons.inj h).1 (by decide))
    | .int a, .int b, _, _, _, h =>
      obtain ⟨h1, h2⟩ := split_all (num_signs a) (num_signs b) hr.num hs.num h
      exact ⟨by rw [numS_inj h1], h2⟩
    | .str x, .str y, hd, he, _, h =>
      have h' : x.cps.toList ++ (39 :: r) = y.cps.toList ++ (39 :: s) := by
        have := (List.cons.inj h).2
        simpa using this
      obtain ⟨h1, h2⟩ := split_all (p := fun c => 97 ≤ c ∧ c ≤ 122) hd he (fun c t e => by obtain ⟨rfl, _⟩ := List.cons.inj e; omega) (fun c t e => by obtain ⟨rfl, _⟩ := List.cons.inj e; omega) h'
      exact ⟨by rw [str_ext h1], (List.cons.inj h2).2⟩
    | .tuple ds, .tuple es, hd, he, _, h =>
      have h' : txts ds ++ ((if ds.length = 1 then [44, 41] else [41]) ++ r) = txts es ++ ((if es.length = 1 then [44, 41] else [41]) ++ s) := by
        rw [← List.append_assoc, ← List.append_assoc]
        exact (List.cons.inj h).2
      obtain ⟨rfl, h2⟩ := txts_inj hd he (tail_end ds r) (tail_end es s) h'
      exact ⟨rfl, List.append_cancel_left h2⟩
    | .list ds, .list es, hd, he, _, h =>
      have h' : txts ds ++ ([93] ++ r) = txts es ++ ([93] ++ s) := by
        rw [← List.append_assoc, ← List.append_assoc]
        exact (List.cons.inj h).2
      obtain ⟨rfl, h2⟩ := txts_inj hd he ⟨93, _, rfl, .inr (.inl rfl)⟩ ⟨93, _, rfl, .inr (.inl rfl)⟩ h'
      exact ⟨rfl, (List.cons.inj h2).2⟩
    | .dict _, _, hd, _, _, _ => exact hd.elim
theorem txts_inj : ∀ {ds : List PyData}, Nices ds → ∀ {es : List PyData}, Nices es → ∀ {u v : List Nat}, EndL u → EndL v → txts ds ++ u = txts es ++ v → ds = es ∧ u = v
  | [], _, [], _, u, v, _, _, h => ⟨rfl, h⟩
  | [], _, e :: es, he, u, v, hu, _, h => absurd h (no_head he.1 hu)
  | d :: ds, hd, [], _, u, v, _, hv, h => absurd h.symm (no_head hd.1 hv)
  | d :: ds, hd, e :: es, he, u, v, hu, hv, h => by
    have h' : txt d ++ (mores ds ++ u) = txt e ++ (mores es ++ v) := by
      rw [← List.append_assoc, ← List.append_assoc]
      exact h
    obtain ⟨rfl, h2⟩ := txt_inj hd.1 he.1 (mores_stop hu) (mores_stop hv) h'
    obtain ⟨rfl, h3⟩ := mores_inj hd.2 he.2 hu hv h2
    exact ⟨rfl, h3⟩
theorem mores_inj : ∀ {ds : List PyData}, Nices ds → ∀ {es : List PyData}, Nices es → ∀ {u v : List Nat}, EndL u → EndL v → mores ds ++ u = mores es ++ v → ds = es ∧ u = v
  | [], _, [], _, u, v, _, _, h => ⟨rfl, h⟩
  | [], _, e :: es, he, u, v, hu, _, h => by
    obtain ⟨c, t, rfl, hc⟩ := hu
    obtain ⟨rfl, h2⟩ := List.cons.inj h
    rcases hc with hc | hc | ⟨_, t', rfl⟩
    · omega
    · omega
    · exact absurd (List.cons.inj h2).1 (by decide)
  | d :: ds, hd, [], _, u, v, _, hv, h => by
    obtain ⟨c, t, rfl, hc⟩ := hv
    obtain ⟨rfl, h2⟩ := List.cons.inj h
    rcases hc with hc | hc | ⟨_, t', rfl⟩
    · omega
    · omega
    · exact absurd (List.cons.inj h2).1 (by decide)
  | d :: ds, hd, e :: es, he, u, v, hu, hv, h => by
    have h0 := (List.cons.inj (List.cons.inj h).2).2
    have h' : txt d ++ (mores ds ++ u) = txt e ++ (mores es ++ v) := by
      rw [← List.append_assoc, ← List.append_assoc]
      exact h0
    obtain ⟨rfl, h2⟩ := txt_inj hd.1 he.1 (mores_stop hu) (mores_stop hv) h'
    obtain ⟨rfl, h3⟩ := mores_inj hd.2 he.2 hu hv h2
    exact ⟨rfl, h3⟩
end
theorem shown_eq {d e : PyData} (hd : Nice d) (he : Nice e) : d.shown = e.shown ↔ d = e := by
  constructor
  · intro h
    have h2 : txt d ++ [] = txt e ++ [] := by rw [List.append_nil, List.append_nil, ← shown_txt hd, ← shown_txt he, h]
    exact (txt_inj hd he (.inl rfl) (.inl rfl) h2).1
  · rintro rfl
    rfl

/-! ### a law's own judge: what it looks at, with all that lies in it -/
mutual
inductive Dj (z : Addr) (H : Hp) : V → PyData → Prop
  | non : Dj z H .non .none
  | bl (b : Bool) : Dj z H (.bl b) (.bool b)
  | int (i : Int) : Dj z H (.int i) (.int i)
  | str (x : Str) : Dj z H (.str x) (.str x)
  | tup {a : Addr} {xs : List V} {ds : List PyData} : a ≠ z → H a = some (.tup xs) → Djs z H xs ds → Dj z H (.ref a) (.tuple ds)
  | lst {a : Addr} {xs : List V} {ds : List PyData} : a ≠ z → H a = some (.lst xs) → Djs z H xs ds → Dj z H (.ref a) (.list ds)
inductive Djs (z : Addr) (H : Hp) : List V → List PyData → Prop
  | nil : Djs z H [] []
  | cons {v : V} {vs : List V} {d : PyData} {ds : List PyData} : Dj z H v d → Djs z H vs ds → Djs z H (v :: vs) (d :: ds)
end
section
variable {z : Addr} {H H' : Hp}
mutual
theorem Dj.mono (k : Chg z H H') : ∀ {d : PyData} {v : V}, Dj z H v d → Dj z H' v d
  | .none, _, h => by cases h; exact .non
  | .bool b, _, h => by cases h; exact .bl b
  | .int i, _, h => by cases h; exact .int i
  | .str x, _, h => by cases h; exact .str x
  | .tuple ds, _, h => by
    cases h with
    | tup n e r => exact .tup n (k _ _ n e) (Djs.mono k r)
  | .list ds, _, h => by
    cases h with
    | lst n e r => exact .lst n (k _ _ n e) (Djs.mono k r)
  | .dict ds, _, h => by cases h
theorem Djs.mono (k : Chg z H H') : ∀ {ds : List PyData} {vs : List V}, Djs z H vs ds → Djs z H' vs ds
  | [], _, h => by cases h; exact .nil
  | d :: ds, _, h => by
    cases h with
    | cons a b => exact .cons (Dj.mono k a) (Djs.mono k b)
end
mutual
theorem Dj.jq : ∀ {d : PyData} {v : V}, Dj z H v d → Jq H v d
  | .none, _, h => by cases h; exact .non
  | .bool b, _, h => by cases h; exact .bl b
  | .int i, _, h => by cases h; exact .int i
  | .str x, _, h => by cases h; exact .str x
  | .tuple ds, _, h => by
    cases h with
    | tup n e r => exact .tup e (Djs.jqs r)
  | .list ds, _, h => by
    cases h with
    | lst n e r => exact .lst e
  | .dict ds, _, h => by cases h
theorem Djs.jqs : ∀ {ds : List PyData} {vs : List V}, Djs z H vs ds → Jqs H vs ds
  | [], _, h => by cases h; exact .nil
  | d :: ds, _, h => by
    cases h with
    | cons a b => exact .cons (Dj.jq a) (Djs.jqs b)
end
mutual
theorem Dj.dp {K : PySem.W.Frag} : ∀ {d : PyData} {v : V}, Dj z H v d → Dp K H v d
  | .none, _, h => by cases h; exact .non
  | .bool b, _, h => by cases h; exact .bl b
  | .int i, _, h => by cases h; exact .int i
  | .str x, _, h => by cases h; exact .str x
  | .tuple ds, _, h => by
    cases h with
    | tup n e r => exact .tup (.of e) (Djs.dps r)
  | .list ds, _, h => by
    cases h with
    | lst n e r => exact .lst (.of e) (Djs.dps r)
  | .dict ds, _, h => by cases h
theorem Djs.dps {K : PySem.W.Frag} : ∀ {ds : List PyData} {vs : List V}, Djs z H vs ds → DpAll K H vs ds
  | [], _, h => by cases h; exact .nil
  | d :: ds, _, h => by
    cases h with
    | cons a b => exact .cons (Dj.dp a) (Djs.dps b)
end
mutual
theorem Tp.dj (hz : ∀ xs, H z ≠ some (.tup xs)) : ∀ {d : PyData} {v : V}, Tp H v d → Dj z H v d
  | .none, _, h => by cases h; exact .non
  | .bool b, _, h => by cases h; exact .bl b
  | .int i, _, h => by cases h; exact .int i
  | .str x, _, h => by cases h; exact .str x
  | .tuple ds, _, h => by
    cases h with
    | tup e r => exact .tup (fun q => hz _ (q ▸ e)) e (Tps.djs hz r)
  | .list ds, _, h => by cases h
  | .dict ds, _, h => by cases h
theorem Tps.djs (hz : ∀ xs, H z ≠ some (.tup xs)) : ∀ {ds : List PyData} {vs : List V}, Tps H vs ds → Djs z H vs ds
  | [], _, h => by cases h; exact .nil
  | d :: ds, _, h => by
    cases h with
    | cons a b => exact .cons (Tp.dj hz a) (Tps.djs hz b)
end
end
theorem Djs.length {z : Addr} {H : Hp} {vs : List V} {ds : List PyData} (h : Djs z H vs ds) : vs.length = ds.length := h.jqs.length
theorem Djs.at {z : Addr} {H : Hp} : ∀ {vs : List V} {ds : List PyData}, Djs z H vs ds → ∀ {i : Nat} {v : V}, vs[i]? = some v → ∃ d, ds[i]? = some d ∧ Dj z H v d
  | _, _, .nil, i, v, e => by simp at e
  | _, _, .cons a r, 0, v, e => by cases e; exact ⟨_, rfl, a⟩
  | _, _, .cons a r, i + 1, v, e => r.at (i := i) e
theorem Djs.drop {z : Addr} {H : Hp} : ∀ {vs : List V} {ds : List PyData} (n : Nat), Djs z H vs ds → Djs z H (vs.drop n) (ds.drop n)
  | _, _, 0, h => h
  | _, _, n + 1, .nil => by simp; exact .nil
  | _, _, n + 1, .cons _ h => by simpa using Djs.drop n h
theorem Djs.take {z : Addr} {H : Hp} : ∀ {vs : List V} {ds : List PyData} (n : Nat), Djs z H vs ds → Djs z H (vs.take n) (ds.take n)
  | _, _, 0, h => by simp; exact .nil
  | _, _, n + 1, .nil => by simp; exact .nil
  | _, _, n + 1, .cons a h => by simpa using Djs.cons a (Djs.take n h)
/-! parts of what may be shown -/
theorem ShowAll.uncons {D N : Nat} {d : PyData} {ds : List PyData} (h : ShowAll D N (d :: ds)) : ShowOk D N d ∧ ShowAll D N ds := by
  have hs := h.sh
  have hn := h.nd
  have hl := h.sl
  have hc := h.cl
  have hd := h.dp
  have hb := h.bk
  rw [PyData.showableAll, Bool.and_eq_true] at hs
  rw [PyData.hasDictAll, Bool.or_eq_false_iff] at hn
  rw [PyData.leavesShortAll, Bool.and_eq_true] at hl
  rw [PyData.canLayAll0, Bool.and_eq_true] at hc
  rw [PyData.depthAll] at hd
  rw [PyData.bulkAll] at hb
  exact ⟨⟨hs.1, hn.1, hl.1, hc.1, by omega, by omega⟩, hs.2, hn.2, hl.2, hc.2, by omega, by omega⟩
theorem ShowAll.drop {D N : Nat} : ∀ {ds : List PyData} (n : Nat), ShowAll D N ds → ShowAll D N (ds.drop n)
  | _, 0, h => h
  | [], _ + 1, h => h
  | _ :: _, n + 1, h => ShowAll.drop n h.uncons.2
theorem ShowAll.take {D N : Nat} : ∀ {ds : List PyData} (n : Nat), ShowAll D N ds → ShowAll D N (ds.take n)
  | _, 0, h => by simpa using ShowAll.nil
  | [], _ + 1, h => h
  | d :: ds, n + 1, h => by
    have hb := h.bk
    rw [PyData.bulkAll] at hb
    obtain ⟨h1, h2⟩ := h.uncons
    have h1' : ShowOk D d.bulk d := ⟨h1.sh, h1.nd, h1.sl, h1.cl, h1.dp, Nat.le_refl _⟩
    have h2' : ShowAll D (N - (d.bulk + 1)) ds := ⟨h2.sh, h2.nd, h2.sl, h2.cl, h2.dp, by omega⟩
    exact (ShowAll.cons h1' (ShowAll.take n h2')).mono (Nat.le_refl _) (by omega)
theorem ShowAll.at {D N : Nat} : ∀ {ds : List PyData} {i : Nat} {d : PyData}, ShowAll D N ds → ds[i]? = some d → ShowOk D N d
  | [], i, d, _, e => by simp at e
  | x :: ds, 0, d, h, e => by cases e; exact h.uncons.1
  | x :: ds, i + 1, d, h, e => ShowAll.at (i := i) h.uncons.2 e
theorem ShowOk.untup {D N : Nat} {ds : List PyData} (h : ShowOk D N (.tuple ds)) : ShowAll D N ds := by
  have hs := h.sh
  have hn := h.nd
  have hl := h.sl
  have hc := h.cl
  have hd := h.dp
  have hb := h.bk
  rw [PyData.showable] at hs
  rw [PyData.hasDict] at hn
  rw [PyData.leavesShort] at hl
  rw [PyData.canLay0] at hc
  rw [PyData.depth] at hd
  rw [PyData.bulk] at hb
  exact ⟨hs, hn, hl, hc, by omega, hb⟩
theorem Nices.iff : ∀ {ds : List PyData}, Nices ds ↔ ∀ d ∈ ds, Nice d
  | [] => ⟨fun _ d h => (by cases h), fun _ => trivial⟩
  | d :: ds => ⟨fun h e he => (List.mem_cons.mp he).elim (fun q => q ▸ h.1) fun q => Nices.iff.mp h.2 e q, fun h => ⟨h d (by simp), Nices.iff.mpr fun e he => h e (by simp [he])⟩⟩
theorem Nices.drop {ds : List PyData} (n : Nat) (h : Nices ds) : Nices (ds.drop n) := Nices.iff.mpr fun d hd => Nices.iff.mp h d (List.mem_of_mem_drop hd)
theorem Nices.take {ds : List PyData} (n : Nat) (h : Nices ds) : Nices (ds.take n) := Nices.iff.mpr fun d hd => Nices.iff.mp h d (List.mem_of_mem_take hd)
/-- rows that a law's own judge looks at -/
structure LPre (z : Addr) (H : Hp) (ra : Addr) (us : List V) (R : List PyData) : Prop where
  er : H ra = some (.tup us)
  tr : Djs z H us R
  ni : Nices R
  sh : ShowAll 80 150000 R
theorem LPre.same {z : Addr} {H H' : Hp} {ra : Addr} {us : List V} {R : List PyData} (h : LPre z H ra us R) (s : Same H H') : LPre z H' ra us R := ⟨s _ _ h.er, h.tr.mono (.same s), h.ni, h.sh⟩
def spMet : Sp := fun vs H Q _ => ∃ (z ra dl : Addr) (us ws : List V) (R due : List PyData) (i : Nat), vs = [.ref ra, .int (i : Nat), .ref dl] ∧ LPre z H ra us R ∧ H dl = some (.lst ws) ∧ Tps H ws due ∧ Nices due ∧ ShowAll 80 150000 due ∧ EndsK H (StandAt R due i) Q
theorem pure_met {K : PySem.W.Frag} {w : World} : PureOk 3 spMet (t_law_met K w (spSame K)) 4 := by
  refine ⟨fun vs H Q E ⟨_, _, _, _, _, _, _, _, e, _⟩ => by rw [e]; rfl, ?_⟩
  rintro vs H Q E ⟨z, ra, dl, us, ws, R, due, i, rfl, h, ed, td, hn, hsd, q⟩
  show t_law_met K w _ _ [some (.ref ra), some (.int (i : Nat)), some (.ref dl), none] H
  unfold t_law_met
  have hwl : ws.length = due.length := td.length
  walk_at "gg"
  refine g_seqL ?_
  walk_at "gg"
  rename_i a1 H1 n1 e1 s1
  intro D hD
  refine lc_any 1 (fun n acc H' => (∃ fs : List Nat, acc = natsV fs ∧ fs.length ≤ n ∧ (n = 1 → ∀ j, j ∈ fs ↔ StandAt R due i j)) ∧ Same H1 H') hD
    (fun H' _ s => ⟨⟨[], rfl, Nat.le_refl _, fun h => by cases h⟩, s⟩)
    (fun n acc H' hn ⟨_, s⟩ => ⟨_, _, .of (s _ _ e1), List.getElem?_eq_getElem (show n < [V.int 0].length from hn)⟩)
    (fun acc H' ⟨_, s⟩ => ⟨_, .of (s _ _ e1), Nat.le_refl _⟩) ?_ ?_
  · rintro n x acc _ H4 hn0 hla ⟨⟨fs, rfl, hfl, _⟩, s4⟩ hd4 ⟨rfl, hx⟩
    obtain rfl : n = 0 := by omega
    obtain rfl : fs = [] := List.length_eq_zero_iff.mp (by omega)
    have s04 := s1.trans s4
    have h4 := h.same s04
    have er4 := h4.er
    have ed4 := s04 _ _ ed
    refine g_name rfl ?_
    refine ⟨rfl, ?_⟩
    walk_at "gg"
    refine g_slJ er4 fun c H5 e5 s5 => ?_
    rw [hwl, cut_at] at e5
    have tc := ((h4.tr.mono (.same s5)).drop i).take due.length
    walk_at "gg"
    rename_i c6 H6 n6 e6 s6
    have s46 := s5.trans s6
    have ed6 := s46 _ _ ed4
    refine ⟨_, _, .list ((R.drop i).take due.length), .list due, 81, 150000, rfl, .lst (.of e6) (Djs.dps (tc.mono (.same s6))), .lst (.of ed6) (Tps.dp (td.mono (Same.tk (s04.trans s46)))), ShowOk.lst ((h.sh.drop i).take _), ShowOk.lst hsd, by decide, by decide, ?_⟩
    refine ⟨_, rfl, ?_⟩
    have hiff : (PyData.list ((R.drop i).take due.length)).shown = (PyData.list due).shown ↔ due <+: R.drop i := by
      rw [shown_eq (show Nice (.list _) from (h.ni.drop i).take _) (show Nice (.list _) from hn), pre_take]
      exact ⟨fun h => PyData.list.inj h, fun h => congrArg PyData.list h⟩
    refine g_ite (fun hb => ?_) (fun hb => ?_)
    · have hst := hiff.mp (of_decide_eq_true hb)
      walk_at "gg"
      refine lc_step (s46 _ _ hd4) hla (by show _ < 16777216; omega) fun H7 e7 c7 => ?_
      refine ⟨⟨[i + due.length], by simp [natsV, hwl], by simp, fun _ j => ?_⟩, fun b o eo => c7 b o (ne_of_none eo hD) (s46 b o (s4 b o eo))⟩
      rw [List.mem_singleton]
      exact ⟨fun h => ⟨hst, h⟩, fun h => h.2⟩
    · refine ⟨[], s46 _ _ hd4, Nat.zero_le _, ⟨[], rfl, Nat.zero_le _, fun _ j => ?_⟩, s4.trans s46⟩
      exact ⟨fun h => (by cases h), fun h => absurd (hiff.mpr h.1) (of_decide_eq_false hb)⟩
  · rintro acc H4 hd4 ⟨⟨fs, rfl, hfl, hfs⟩, s4⟩
    exact q D fs H4 (s1.free hD) hd4 hfl (hfs rfl) (s1.trans s4)

/-! ### a law's own judge: turns -/
theorem word1_nice (k : K1) : Nice (.str k.word) := by cases k <;> (show ∀ c ∈ _, _; decide +kernel)
theorem word2_nice (k : K2) : Nice (.str k.word) := by cases k <;> (show ∀ c ∈ _, _; decide +kernel)
theorem way_nice {w : Way} (h : w.1 = "thing" ∨ w.1 = "local") : Nice (.str w.1) := by
  rcases h with h | h <;> rw [h] <;> (show ∀ c ∈ _, _; decide +kernel)
theorem name_nice {x : Str} (h : isName x) : Nice (.str x) := fun c hc => by have := h.2.2 c hc; omega
mutual
theorem Part.bld_nice {ws : Str → Way} {dom : List Str} (hw : WsOk ws) : ∀ {p : Part}, p.inD dom → Nices (p.bld ws)
  | .num n, _ => ⟨⟨by show ∀ c ∈ _, _; decide +kernel, trivial, trivial⟩, trivial⟩
  | .name x, _ => ⟨⟨way_nice (hw x).1, trivial, trivial⟩, trivial⟩
  | .fn f, h => ⟨⟨by show ∀ c ∈ _, _; decide +kernel, name_nice h, trivial⟩, trivial⟩
  | .one k a, h => Nices.iff.mpr fun d hd => by
    rcases List.mem_append.mp hd with hd | hd
    · exact Nices.iff.mp (Part.bld_nice hw (p := a) h) d hd
    · rw [List.mem_singleton.mp hd]; exact ⟨word1_nice k, trivial⟩
  | .two k a b, h => Nices.iff.mpr fun d hd => by
    rcases List.mem_append.mp hd with hd | hd
    · rcases List.mem_append.mp hd with hd | hd
      · exact Nices.iff.mp (Part.bld_nice hw (p := a) h.1) d hd
      · exact Nices.iff.mp (Part.bld_nice hw (p := b) h.2) d hd
    · rw [List.mem_singleton.mp hd]; exact ⟨word2_nice k, trivial⟩
  | .whn a b c, h => Nices.iff.mpr fun d hd => by
    rcases List.mem_append.mp hd with hd | hd
    · rcases List.mem_append.mp hd with hd | hd
      · rcases List.mem_append.mp hd with hd | hd
        · exact Nices.iff.mp (Part.bld_nice hw (p := a) h.1) d hd
        · exact Nices.iff.mp (Part.bld_nice hw (p := b) h.2.1) d hd
      · exact Nices.iff.mp (Part.bld_nice hw (p := c) h.2.2) d hd
    · rw [List.mem_singleton.mp hd]; exact ⟨by show ∀ c ∈ _, _; decide +kernel, trivial⟩
  | .letp r a, h => Nices.iff.mpr fun d hd => by
    rcases List.mem_append.mp (show d ∈ r.opened ws ++ a.bld ws from hd) with hd | hd
    · rcases List.mem_cons.mp hd with rfl | hd
      · exact ⟨by show ∀ c ∈ _, _; decide +kernel, trivial, trivial, trivial⟩
      · exact Nices.iff.mp (Rows.opn_nice hw (r := r) h.2.2.1) d hd
    · exact Nices.iff.mp (Part.bld_nice hw (p := a) h.2.2.2) d hd
  | .shut a, h => h.elim
theorem Rows.opn_nice {ws : Str → Way} {dom : List Str} (hw : WsOk ws) : ∀ {r : Rows}, r.inD dom → Nices (r.opn ws)
  | .nil, _ => trivial
  | .cons x a r, h => Nices.iff.mpr fun d hd => by
    rcases List.mem_append.mp hd with hd | hd
    · exact Nices.iff.mp (Part.bld_nice hw (p := a) h.2.1) d hd
    · rcases List.mem_cons.mp hd with rfl | hd
      · exact ⟨by show ∀ c ∈ _, _; decide +kernel, trivial, trivial⟩
      · exact Nices.iff.mp (Rows.opn_nice hw (r := r) h.2.2) d hd
end
theorem opened_nice {ws : Str → Way} {dom : List Str} (hw : WsOk ws) {r : Rows} (h : r.inD dom) : Nices (r.opened ws) :=
  ⟨⟨by show ∀ c ∈ _, _; decide +kernel, trivial, trivial, trivial⟩, Rows.opn_nice hw h⟩
theorem Nices.app {a b : List PyData} (ha : Nices a) (hb : Nices b) : Nices (a ++ b) := Nices.iff.mpr fun d hd => (List.mem_append.mp hd).elim (Nices.iff.mp ha d) (Nices.iff.mp hb d)
theorem wanted_nice {want : Str} (h : wanted want) : Nice (.str want) := by
  rcases h with rfl | rfl | rfl <;> (show ∀ c ∈ _, _; decide +kernel)
theorem do_nice {want : Str} (h : wanted want) : Nice (doD want) := ⟨by show ∀ c ∈ _, _; decide +kernel, wanted_nice h, trivial⟩
theorem after_nice {want : Str} (h : wanted want) : Nices (afterD want) := by
  unfold afterD
  split
  · trivial
  · exact ⟨do_nice h, trivial⟩
theorem pair_nice (want : Str) : Nices (pairD want) := by
  unfold pairD
  split
  · exact ⟨do_nice (.inr (.inr rfl)), trivial⟩
  · trivial
theorem now_nice (k : K2) : Nice (nowD k.word) := ⟨by show ∀ c ∈ _, _; decide +kernel, word2_nice k, trivial⟩
theorem side_nice (k : K1) : Nice (sideD k.word) := ⟨by show ∀ c ∈ _, _; decide +kernel, word1_nice k, trivial⟩
/-- a law's own judge of a part -/
structure QPre (z : Addr) (H : Hp) (ra : Addr) (us : List V) (R : List PyData) (v : V) (p : Part) (d : Addr) (dom : List Str) (ws : Str → Way) : Prop where
  l : LPre z H ra us R
  tv : Tp H v p.data
  pre : RowsPre H p d dom ws
  wok : WsOk ws
theorem QPre.same {z : Addr} {H H' : Hp} {ra : Addr} {us : List V} {R : List PyData} {v : V} {p : Part} {d : Addr} {dom : List Str} {ws : Str → Way} (h : QPre z H ra us R v p d dom ws) (s : Same H H') : QPre z H' ra us R v p d dom ws :=
  ⟨h.l.same s, h.tv.mono (Same.tk s), h.pre.same s, h.wok⟩
def spEndsL (m : Nat) : Sp := fun vs H Q _ => ∃ (z ra : Addr) (us : List V) (R : List PyData) (i : Nat) (v : V) (p : Part) (d : Addr) (dom : List Str) (ws : Str → Way) (want : Str), vs = [.ref ra, .int (i : Nat), v, .str want, .ref d] ∧ QPre z H ra us R v p d dom ws ∧ p.deep ≤ m ∧ wanted want ∧ EndsK H (EndAt ws R p want i) Q
def spTurned (m : Nat) : Sp := fun vs H Q _ => ∃ (z sa : Addr) (us : List V) (S : List PyData) (v : V) (a b c : Part) (d : Addr) (dom : List Str) (ws : Str → Way) (want : Str), vs = [.ref sa, v, .str want, .ref d] ∧ QPre z H sa us S v (.whn a b c) d dom ws ∧ S.length ≤ 1 ∧ (Part.whn a b c).deep ≤ m + 1 ∧ wanted want ∧
  ∀ (b0 : Bool) (H' : Hp), (b0 = true ↔ ∃ y z', S = [turnD y z'] ∧ DoneR ws b want y ∧ DoneR ws c want z') → Same H H' → Q (.bl b0) H'
/-- one half of a turn -/
def t_turned_b (K : PySem.W.Frag) (w : World) (s_law_ends : Sp) : TS :=
  (tIfS (tOr (tNot (tTru K (tCB (rIsiG K) (tCons (tVar 4) (tCons (tC (.ty "tuple")) tNil))))) (tTest (tOp (rInG K w true) (tCB (rLenG K) (tCons (tVar 4) tNil)) (tCall s_law_ends [] E0 (tCons (tVar 4) (tCons (tC (.int 0)) (tCons (tVar 5) (tCons (tVar 2) (tCons (tVar 3) tNil))))))))) (tRet (tC (.bl false))) tNext)
section
variable {K : PySem.W.Frag} {w : World} {m : Nat}
theorem g_ninN {H : Hp} {Q : VK} {l : Addr} {n : Nat} {es : List Nat} (h : H l = some (.lst (natsV es))) (q : Q (.bl (!decide (n ∈ es))) H) : rInG K w true (.int (n : Nat)) (.ref l) H Q :=
  .inl ⟨l, _, rfl, .inl (.of h), rfl, by simp [flatV], by rw [inV_nat]; exact q⟩
theorem turned_b {H : Hp} {D : Ends} {z sa da : Addr} {v vn un : V} {dn : PyData} {pn : Part} {dom : List Str} {ws : Str → Way} {want : Str} (hv : Dj z H vn dn) (hni : Nice dn) (hsh : ShowOk 80 150000 dn) (tu : Tp H un pn.data) (pre : RowsPre H pn da dom ws) (wok : WsOk ws) (hm : pn.deep ≤ m) (hw : wanted want)
    (hyes : ∀ H', Same H H' → (∃ y, dn = .tuple y ∧ DoneR ws pn want y) → D.nx [some (.ref sa), some v, some (.str want), some (.ref da), some vn, some un] H')
    (hno : ∀ H', Same H H' → (¬ ∃ y, dn = .tuple y ∧ DoneR ws pn want y) → D.rt (.bl false) H') :
    t_turned_b K w (spEndsL m) D [some (.ref sa), some v, some (.str want), some (.ref da), some vn, some un] H := by
  unfold t_turned_b
  walk_at "gg"
  refine g_isi hv.jq.ty (kit_tuple hv.jq) ?_
  walk_at "gg"
  have no : isTupD dn = false → ¬ ∃ y, dn = .tuple y ∧ DoneR ws pn want y := fun hd ⟨y, e, _⟩ => by rw [e] at hd; cases hd
  cases hv with
  | str x => exact g_T rfl (by walk_at "gg"; exact hno H (.refl _) (no rfl))
  | non => exact g_T rfl (by walk_at "gg"; exact hno H (.refl _) (no rfl))
  | bl b => exact g_T rfl (by walk_at "gg"; exact hno H (.refl _) (no rfl))
  | int i => exact g_T rfl (by walk_at "gg"; exact hno H (.refl _) (no rfl))
  | lst n e r => exact g_T rfl (by walk_at "gg"; exact hno H (.refl _) (no rfl))
  | @tup a xs ds na ea txs =>
    refine g_F rfl ?_
    walk_at "gg"
    refine ⟨z, a, xs, ds, 0, un, pn, da, dom, ws, want, rfl, ⟨⟨ea, txs, hni, hsh.untup⟩, tu, pre, wok⟩, hm, hw, fun l es H1 nl el hel he s1 => ?_⟩
    refine g_ninN el ?_
    have hiff : xs.length ∈ es ↔ DoneR ws pn want ds := by rw [he, txs.length, end_whole]
    by_cases hd : DoneR ws pn want ds
    · rw [decide_eq_true (hiff.mpr hd)]
      walk_at "gg"
      exact hyes H1 s1 ⟨ds, rfl, hd⟩
    · rw [decide_eq_false (fun h => hd (hiff.mp h))]
      walk_at "gg"
      exact hno H1 s1 fun ⟨y, e, h⟩ => hd (by rw [PyData.tuple.inj e]; exact h)
theorem pure_turned : PureOk 4 (spTurned m) (t_law_turned K w (spSame K) (spEndsL m)) 6 := by
  refine ⟨fun vs H Q E ⟨_, _, _, _, _, _, _, _, _, _, _, _, e, _⟩ => by rw [e]; rfl, ?_⟩
  rintro vs H Q E ⟨z, sa, us, S, v, a, b, c, da, dom, ws, want, rfl, h, hS, hm, hw, q⟩
  show t_law_turned K w _ _ _ [some (.ref sa), some v, some (.str want), some (.ref da), none, none] H
  unfold t_law_turned
  obtain ⟨pa, ys, rfl, ea, ty⟩ := id h.tv.part
  obtain ⟨u2, ys1, rfl, t2, ty⟩ := Tps.cons_inv (ds := [b.data, c.data]) ty
  obtain ⟨u3, ys2, rfl, t3, ty⟩ := Tps.cons_inv (ds := [c.data]) ty
  obtain ⟨u4, ys3, rfl, t4, ty⟩ := Tps.cons_inv (ds := []) ty
  rw [ty.nil_inv] at ea
  have ea' : H pa = some (.tup [.str "when", u2, u3, u4]) := ea
  clear ea ty
  have e : (Part.whn a b c).deep = 1 + max a.deep (max b.deep c.deep) := rfl
  have es := h.l.er
  walk_at "gg"
  rename_i a1 H1 n1 e1 s1
  have h1 := h.same s1
  have es1 := h1.l.er
  refine g_eqT es1 e1 ?_
  walk_at "gg"
  have ts1 := h1.l.tr
  have hsh := h.l.sh
  have hni := h.l.ni
  match us, S, ts1, hS, es1, hsh, hni, q with
  | [], _, .nil, _, es1, _, _, q =>
    refine g_T rfl ?_
    walk_at "gg"
    exact q false H1 ⟨fun h => (by cases h), fun ⟨y, z', e, _⟩ => (by cases e)⟩ s1
  | u0 :: us', _, .cons (d := d0) (ds := ds') t0 tr, hS, es1, hsh, hni, q =>
    obtain rfl : ds' = [] := List.length_eq_zero_iff.mp (by rw [List.length_cons] at hS; omega)
    cases tr
    refine g_F rfl ?_
    walk_at "gg"
    refine g_isi t0.jq.ty (kit_tuple t0.jq) ?_
    walk_at "gg"
    have hno : isTupD d0 = false → ∀ {b0 : Bool}, b0 = false → (b0 = true ↔ ∃ y z', [d0] = [turnD y z'] ∧ DoneR ws b want y ∧ DoneR ws c want z') := fun hd b0 hb => ⟨fun h => (by rw [hb] at h; cases h), fun ⟨y, z', e, _⟩ => (by rw [(List.cons.inj e).1] at hd; cases hd)⟩
    cases t0 with
    | str x => exact g_T rfl (by walk_at "gg"; exact q false H1 (hno rfl rfl) s1)
    | non => exact g_T rfl (by walk_at "gg"; exact q false H1 (hno rfl rfl) s1)
    | bl b => exact g_T rfl (by walk_at "gg"; exact q false H1 (hno rfl rfl) s1)
    | int i => exact g_T rfl (by walk_at "gg"; exact q false H1 (hno rfl rfl) s1)
    | lst n e r => exact g_T rfl (by walk_at "gg"; exact q false H1 (hno rfl rfl) s1)
    | @tup a0 xs ds na e0 txs =>
      refine g_F rfl ?_
      walk_at "gg"
      have hok := hsh.uncons.1.untup
      have hnd : Nices ds := hni.1
      by_cases h3 : xs.length = 3
      · match xs, ds, h3, txs, e0, hok, hnd, q with
        | [v0, v1, v2], [d0, d1, d2], _, .cons t0 (.cons t1 (.cons t2 .nil)), e0, hok, hnd, q =>
        walk_at "gg"
        have ht : ShowOk 80 150000 (.str "turn") := (asc (k := 4) (by decide) (by decide)).mono (Nat.zero_le _) (by decide)
        refine ⟨v0, _, d0, .str "turn", 80, 150000, rfl, t0.dp, .str _, hok.uncons.1, ht, by decide, by decide, ?_⟩
        refine ⟨_, rfl, ?_⟩
        have hiff : d0.shown = (PyData.str "turn").shown ↔ d0 = .str "turn" := shown_eq hnd.1 (by show ∀ c ∈ _, _; decide +kernel)
        by_cases hd0 : d0 = .str "turn"
        · obtain rfl := hd0
          rw [decide_eq_true rfl]
          have ea1 := s1 _ _ ea'
          walk_at "gg"
          refine g_seqL ?_
          walk_at "gg"
          rename_i p1 H2 n2 e2 s2 p2 H3 n3 e3 s3 l4 H4 n4 e4 s4
          have s24 := s2.trans (s3.trans s4)
          have s04 := s1.trans s24
          have e2' := (s3.trans s4) _ _ e2
          have e3' := s4 _ _ e3
          have hpre := h.pre.same s04
          refine for_any 2 (fun n σ H' => ∃ (x4 x5 : Option V), σ = [some (.ref sa), some (.ref pa), some (.str want), some (.ref da), x4, x5] ∧ Same H4 H' ∧ (1 ≤ n → ∃ y, d1 = .tuple y ∧ DoneR ws b want y) ∧ (2 ≤ n → ∃ y, d2 = .tuple y ∧ DoneR ws c want y))
            ⟨_, _, rfl, .refl _, fun h => absurd h (by decide), fun h => absurd h (by decide)⟩
            (fun n σ H' hn ⟨_, _, _, s, _⟩ => ⟨_, _, .of (s _ _ e4), List.getElem?_eq_getElem (show n < [V.ref p1, V.ref p2].length from hn)⟩)
            (fun σ H' ⟨_, _, _, s, _⟩ => ⟨_, .of (s _ _ e4), Nat.le_refl _⟩) ?_ ?_
          · rintro n x σ H5 H5' hn ⟨x4, x5, rfl, s5, f1, f2⟩ ⟨rfl, hx⟩
            have hx' := hx _ (.of (s5 _ _ e4))
            have s45 := s24.trans s5
            match n, hn with
            | 0, _ =>
              cases hx'
              refine g_un2 (s5 _ _ e2') ?_
              refine turned_b (t1.mono (.same s45)) hnd.2.1 hok.uncons.2.uncons.1 (t3.mono (Same.tk (s1.trans s45))) ((h.pre.kid0 (whn_plain a b c) (by simp [Part.kids])).same (s1.trans s45)) h.wok (by omega) hw (fun H6 s6 hy => ?_) fun H6 s6 hn => ?_
              · exact ⟨_, _, rfl, s5.trans s6, fun _ => hy, fun h => absurd h (by decide)⟩
              · refine q false H6 ⟨fun h => (by cases h), fun ⟨y, z', e, h1, h2⟩ => absurd ⟨y, ?_, h1⟩ hn⟩ (s1.trans (s45.trans s6))
                have e' := PyData.tuple.inj (List.cons.inj e).1
                injection e' with _ e'
                injection e' with e' _
            | 1, _ =>
              cases hx'
              refine g_un2 (s5 _ _ e3') ?_
              refine turned_b (t2.mono (.same s45)) hnd.2.2.1 hok.uncons.2.uncons.2.uncons.1 (t4.mono (Same.tk (s1.trans s45))) ((h.pre.kid0 (whn_plain a b c) (by simp [Part.kids])).same (s1.trans s45)) h.wok (by omega) hw (fun H6 s6 hy => ?_) fun H6 s6 hn => ?_
              · exact ⟨_, _, rfl, s5.trans s6, fun _ => f1 (by decide), fun _ => hy⟩
              · refine q false H6 ⟨fun h => (by cases h), fun ⟨y, z', e, h1, h2⟩ => absurd ⟨z', ?_, h2⟩ hn⟩ (s1.trans (s45.trans s6))
                have e' := PyData.tuple.inj (List.cons.inj e).1
                injection e' with _ e'
                injection e' with _ e'
                injection e' with e' _
          · rintro σ H5 ⟨x4, x5, rfl, s5, f1, f2⟩
            obtain ⟨y, rfl, g1⟩ := f1 (by decide)
            obtain ⟨z', rfl, g2⟩ := f2 (by decide)
            walk_at "gg"
            exact q true H5 ⟨fun _ => ⟨y, z', rfl, g1, g2⟩, fun _ => rfl⟩ (s1.trans (s24.trans s5))
        · rw [decide_eq_false (fun h => hd0 (hiff.mp h))]
          walk_at "gg"
          refine q false H1 ⟨fun h => (by cases h), fun ⟨y, z', e, _⟩ => absurd ?_ hd0⟩ s1
          have e' := PyData.tuple.inj (List.cons.inj e).1
          injection e' with e' _
      · rw [show (!decide ((xs.length : Int) = 3)) = true from by simp; omega]
        walk_at "gg"
        refine q false H1 ⟨fun h => (by cases h), fun ⟨y, z', e, _⟩ => ?_⟩ s1
        have := txs.length
        rw [PyData.tuple.inj (List.cons.inj e).1] at this
        exact absurd this h3
end

/-! ### a law's own judge: where doings end -/
theorem tk_step {es : List Nat} {n i : Nat} {P : Nat → Prop} (hi : es[n]? = some i) : (∃ i' ∈ es.take (n + 1), P i') ↔ (∃ i' ∈ es.take n, P i') ∨ P i := by
  rw [List.take_add_one, hi, Option.toList_some]
  constructor
  · rintro ⟨i', h1, h2⟩
    rcases List.mem_append.mp h1 with h1 | h1
    · exact .inl ⟨i', h1, h2⟩
    · rw [List.mem_singleton.mp h1] at h2; exact .inr h2
  · rintro (⟨i', h1, h2⟩ | h2)
    · exact ⟨i', List.mem_append_left _ h1, h2⟩
    · exact ⟨i, by simp, h2⟩
theorem stand_app {R x y : List PyData} {i j : Nat} : StandAt R (x ++ y) i j ↔ ∃ i1, StandAt R x i i1 ∧ StandAt R y i1 j := by
  constructor
  · rintro ⟨h, rfl⟩
    obtain ⟨h1, h2⟩ := pre_app.mp h
    exact ⟨_, ⟨h1, rfl⟩, h2, by rw [List.length_append]; omega⟩
  · rintro ⟨_, ⟨h1, rfl⟩, h2, rfl⟩
    exact ⟨pre_app.mpr ⟨h1, h2⟩, by rw [List.length_append]; omega⟩
section
variable {K : PySem.W.Frag} {w : World} {m : Nat}
/-- for end in es: ends = ends + .. -/
theorem for_gather {H : Hp} {D : Ends} {te : TE} {ra d al fl el : Addr} {i : Nat} {v : V} {want : Str} {x7 x8 x9 : Option V} {es fs : List Nat} {P : Nat → Nat → Prop} (eel : H el = some (.lst (natsV es))) (hel : es.length ≤ 1) (ef : H fl = some (.lst (natsV fs))) (hfl : fs.length ≤ 100)
    (hb : ∀ (i1 : Nat) (fl' : Addr) (H' : Hp) (Q' : VK), i1 ∈ es → Same H H' → (∀ (l : Addr) (gs : List Nat) (H'' : Hp), H'' l = some (.lst (natsV gs)) → gs.length ≤ 1 → (∀ j, j ∈ gs ↔ P i1 j) → Same H' H'' → Q' (.ref l) H'') →
      te [some (.ref ra), some (.int (i : Nat)), some v, some (.str want), some (.ref d), some (.ref al), some (.ref fl'), some (.int (i1 : Nat)), x8, x9] H' Q')
    (hd : ∀ (fl' : Addr) (gs : List Nat) (x7 : Option V) (H' : Hp), H' fl' = some (.lst (natsV (fs ++ gs))) → gs.length ≤ 1 → (∀ j, j ∈ gs ↔ ∃ i1 ∈ es, P i1 j) → Same H H' → D.nx [some (.ref ra), some (.int (i : Nat)), some v, some (.str want), some (.ref d), some (.ref al), some (.ref fl'), x7, x8, x9] H') :
    ForW (Itl K el) (gName 7) (tAsg (tOp (rAddG K) (tVar 6) te) (gName 6)) D [some (.ref ra), some (.int (i : Nat)), some v, some (.str want), some (.ref d), some (.ref al), some (.ref fl), x7, x8, x9] H := by
  refine for_L (xs := natsV es) (fun n σ H' => ∃ (fl' : Addr) (x7 : Option V) (gs : List Nat), σ = [some (.ref ra), some (.int (i : Nat)), some v, some (.str want), some (.ref d), some (.ref al), some (.ref fl'), x7, x8, x9] ∧ H' fl' = some (.lst (natsV (fs ++ gs))) ∧ gs.length ≤ n ∧ (∀ j, j ∈ gs ↔ ∃ i1 ∈ es.take n, P i1 j) ∧ Same H H')
    (fun n σ H' ⟨_, _, _, _, _, _, _, s⟩ => s _ _ eel) ⟨fl, x7, [], rfl, by rw [List.append_nil]; exact ef, Nat.le_refl _, by simp, .refl _⟩ ?_ ?_
  · rintro n x σ H4 hx ⟨fl', x7', gs, rfl, ef4, hgl, hgs, s4⟩
    rw [List.getElem?_map] at hx
    obtain ⟨i1, hi1, rfl⟩ := Option.map_eq_some_iff.mp hx
    have hn : n < es.length := (List.getElem?_eq_some_iff.mp hi1).1
    refine g_name rfl ?_
    refine ⟨_, rfl, ?_⟩
    refine hb i1 fl' H4 _ (List.mem_of_getElem? hi1) s4 fun l ks H5 e5 hkl hks s5 => ?_
    refine g_addL (s5 _ _ ef4) e5 (by simp only [List.length_map, List.length_append]; show _ ≤ 16777216; omega) ?_
    walk_at "gg"
    rename_i l6 H6 n6 e6 s6
    refine ⟨l6, _, gs ++ ks, rfl, by rw [e6]; simp [natsV], by rw [List.length_append]; omega, fun j => ?_, s4.trans (s5.trans s6)⟩
    rw [List.mem_append, hgs, hks, tk_step hi1]
  · rintro σ H4 ⟨fl', x7', gs, rfl, ef4, hgl, hgs, s4⟩
    rw [List.length_map] at hgl hgs
    rw [List.take_length] at hgs
    exact hd fl' gs x7' H4 ef4 (by omega) hgs s4
end

/-! ### a law's own judge: the ends -/
section
variable {K : PySem.W.Frag} {w : World} {m : Nat}
theorem take1_at {R : List PyData} {i : Nat} {x : PyData} : (R.drop i).take 1 = [x] ↔ R[i]? = some x := by
  constructor
  · intro h
    have := congrArg (·[0]?) h
    simp only [List.getElem?_take, List.getElem?_drop] at this
    simpa using this
  · intro h
    obtain ⟨hl, h⟩ := List.getElem?_eq_some_iff.mp h
    rw [List.drop_eq_getElem_cons hl, h]
    rfl
theorem pure_lends : PureOk 5 (spEndsL (m + 1)) (t_law_ends K w spMet (spBuild 12) (spOpen 11) (spEndsL m) (spTurned m)) 10 := by
  refine ⟨fun vs H Q E ⟨_, _, _, _, _, _, _, _, _, _, _, e, _⟩ => by rw [e]; rfl, ?_⟩
  rintro vs H Q E ⟨z, ra, us, R, i, v, p, d, dom, ws, want, rfl, h, hm, hw, q⟩
  show t_law_ends K w _ _ _ _ _ _ [some (.ref ra), some (.int (i : Nat)), some v, some (.str want), some (.ref d), none, none, none, none, none] H
  unfold t_law_ends
  have hz := h.pre.z
  have hd12 := h.pre.g.2
  have hwl := hw.len
  obtain ⟨pa, xs, rfl, ea, tx⟩ := id h.tv.part
  walk_at "gg"
  rename_i a1 H1 n1 e1 s1 l2 H2 n2 e2 s2
  refine g_lenS (by show _ ≤ 16777216; omega) ?_
  walk_at "gg"
  refine g_slL (.of e2) ?_
  rw [cut_after hw]
  walk_at "gg"
  rename_i al H4 n4 e4 s4
  have s04 := s1.trans (s2.trans s4)
  have h4 := h.same s04
  have tu4 : Tps H4 (if want = "" then [] else [V.ref a1]) (afterD want) := by
    unfold afterD
    split
    · exact .nil
    · exact .one (.tup (s4 _ _ (s2 _ _ e1)) (.cons (.str _) (.one (.str _))))
  have hul4 : (if want = "" then [] else [V.ref a1]).length ≤ 1 := by split <;> simp
  generalize (if want = "" then [] else [V.ref a1]) = us4 at e4 tu4 hul4
  refine ⟨_, p, d, dom, ws, rfl, h4.tv, h4.pre, hd12, fun l5 us5 H5 nl5 el5 tu5 s5 => ?_⟩
  have hbl := p.bld_len ws
  have hul5 : us5.length ≤ 1000 := by rw [tu5.length]; omega
  walk_at "gg"
  refine g_addL el5 (s5 _ _ e4) (by show _ ≤ 16777216; omega) ?_
  walk_at "gg"
  rename_i l6 H6 n6 e6 s6
  have s06 := s04.trans (s5.trans s6)
  have h6 := h.same s06
  have hsb : ShowAll 80 150000 (p.bld ws ++ afterD want) := ((ShowAll.of (Part.bld_show h.wok h.pre.n)).app (after_show hw)).mono (by decide) (by omega)
  refine ⟨z, ra, l6, us, _, R, _, i, rfl, h6.l, e6, Tps.append (tu5.mono (Same.tk s6)) (tu4.mono (Same.tk (s5.trans s6))), Nices.app (Part.bld_nice h.wok h.pre.n) (after_nice hw), hsb, fun fl fs H7 n7 e7 hfl hfs s7 => ?_⟩
  have s07 := s06.trans s7
  have h7 := h.same s07
  have ea7 := s07 _ _ ea
  have e47 := (s5.trans (s6.trans s7)) _ _ e4
  have tu7 := tu4.mono (Same.tk (s5.trans (s6.trans s7)))
  have huq : ∀ j j', EndAt ws R p want i j → EndAt ws R p want i j' → j = j' := fun j j' a b => EndAt.one h.wok.b h.pre.n a b
  have fin : ∀ {Hn : Hp} {ln : Addr} {gs : List Nat}, Hn ln = some (.lst (natsV gs)) → gs.length ≤ 1000 → (∀ j, j ∈ gs ↔ EndAt ws R p want i j) → Same H Hn → rSetLI K w [.ref ln] Hn fun x H1 => rSortSet w [x] H1 Q := by
    intro Hn ln gs en hgl hgs sn
    refine g_sortset en hgl hgs huq fun l es H8 n8 e8 hes he s8 => ?_
    exact q l es H8 (sn.free n8) e8 hes he (sn.trans s8)
  clear e1 e2 e4 s1 s2 s4 n1 n2 n4 el5 tu5 tu4 s5 e6 s6 n6 nl5 s04 s06 h4 h6
  by_cases hb : p.isBlt = true
  · obtain ⟨f1, f2, f3, f4, f5⟩ := blt_facts hb
    walk_at "gg"
    refine g_F f4 ?_
    walk_at "gg"
    rename_i a8 H8 n8 e8 s8
    refine g_inX (r := false) e8 rfl f3 ?_
    have ea8 := s8 _ _ ea7
    walk_at "gg"
    refine g_F f2 ?_
    walk_at "gg"
    rename_i a9 H9 n9 e9 s9
    refine g_inX (r := false) e9 rfl f1 ?_
    walk_at "gg"
    exact fin (s9 _ _ (s8 _ _ e7)) (by omega) (fun j => by rw [hfs, end_blt hb]) (s07.trans (s8.trans s9))
  cases p with
  | shut a => exact h.pre.n.elim
  | num n => exact absurd rfl hb
  | name n => exact absurd rfl hb
  | fn n => exact absurd rfl hb
  | one k a =>
    obtain ⟨pa', u1, u2, epa, ea2, t1, t2⟩ := id (Tp.two h.tv)
    cases epa
    have ew : (Part.one k a).word = k.word := rfl
    rw [ew] at ea ea7
    rw [t1.str_inv] at ea2
    have e : (Part.one k a).deep = 1 + a.deep := rfl
    have ea27 := s07 _ _ ea2
    clear ea7
    walk_at "gg"
    refine g_F (by show decide (k.word = "let") = false; cases k <;> decide +kernel) ?_
    walk_at "gg"
    rename_i a8 H8 n8 e8 s8
    refine g_inX (r := true) e8 rfl (by cases k <;> decide +kernel) ?_
    have ea28 := s8 _ _ ea27
    have h8 := h7.same s8
    walk_at "gg"
    refine g_seqL ?_
    walk_at "gg"
    refine ⟨z, ra, us, R, i, u2, a, d, dom, ws, "pair", rfl, QPre.same ⟨h.l, t2, h.pre.kid0 (one_plain k a) (by simp [Part.kids]), h.wok⟩ (s07.trans s8), by omega, .inr (.inr rfl), fun el es H9 nel eel hel he s9 => ?_⟩
    have s79 := s8.trans s9
    walk_at "gg"
    refine for_gather (P := fun i1 j => StandAt R ([sideD k.word] ++ afterD want) i1 j) eel hel (s79 _ _ e7) (by omega) (fun i1 fl' H' Q' hi1 s' hq => ?_) fun fl' gs x7 H' ef hgl hgs s' => ?_
    · have sA := s79.trans s'
      have eaA := sA _ _ ea27
      have hA := h7.same sA
      have e4A := sA _ _ e47
      walk_at "gg"
      rename_i b1 J1 m1 f1 r1 b2 J2 m2 f2 r2 b3 J3 m3 f3 r3
      have r13 := r1.trans (r2.trans r3)
      refine ⟨z, ra, b3, us, _, R, [sideD k.word] ++ afterD want, i1, rfl, (hA.same r13).l, f3, .cons (.tup (r3 _ _ (r2 _ _ f1)) (.cons (.str _) (.one (.str _)))) (tu7.mono (Same.tk (sA.trans r13))), Nices.app ⟨side_nice k, trivial⟩ (after_nice hw), ?_, fun l gs J4 m4 f4 hgl hgs r4 => ?_⟩
      · have hn : ShowAll 1 15 [sideD k.word] := ShowAll.one (show2 (k := 4) (m := 5) (asc (by decide) (by decide)) (by cases k <;> exact asc (by decide) (by decide)) (by decide))
        exact (hn.app (after_show hw)).mono (by decide) (by decide)
      · exact hq l gs J4 f4 hgl hgs (r13.trans r4)
    · have sA := s79.trans s'
      have eaA := sA _ _ ea27
      walk_at "gg"
      refine g_F (by show decide (k.word = "when") = false; cases k <;> decide +kernel) ?_
      walk_at "gg"
      rename_i c1 J1 m1 f1 r1
      refine g_inX (r := false) f1 rfl (by cases k <;> decide +kernel) ?_
      walk_at "gg"
      refine fin (r1 _ _ ef) (by rw [List.length_append]; omega) (fun j => ?_) (s07.trans (sA.trans r1))
      rw [List.mem_append, hfs, hgs, end_one]
      refine or_congr_right ?_
      constructor
      · rintro ⟨i1, h1, h2⟩
        obtain ⟨i2, h3, h4⟩ := stand_app.mp h2
        exact ⟨i1, (he _).mp h1, i2, h3, h4⟩
      · rintro ⟨i1, h1, i2, h3, h4⟩
        exact ⟨i1, (he _).mpr h1, stand_app.mpr ⟨i2, h3, h4⟩⟩
  | whn a b c =>
    obtain ⟨pa', ys, epa, ea2, ty⟩ := id h.tv.part
    cases epa
    obtain ⟨u2, ys1, rfl, t2, ty⟩ := Tps.cons_inv (ds := [b.data, c.data]) ty
    have e : (Part.whn a b c).deep = 1 + max a.deep (max b.deep c.deep) := rfl
    have ea27 : H7 pa = some (.tup (.str "when" :: u2 :: ys1)) := s07 _ _ ea2
    clear ea ea7 ea2
    walk_at "gg"
    rename_i a8 H8 n8 e8 s8
    have ea28 := s8 _ _ ea27
    have h8 := h7.same s8
    walk_at "gg"
    refine g_seqL ?_
    walk_at "gg"
    refine ⟨z, ra, us, R, i, u2, a, d, dom, ws, "number", rfl, QPre.same ⟨h.l, t2, h.pre.kid0 (whn_plain a b c) (by simp [Part.kids]), h.wok⟩ (s07.trans s8), by omega, .inr (.inl rfl), fun el es H9 nel eel hel he s9 => ?_⟩
    have s79 := s8.trans s9
    walk_at "gg"
    refine for_gather (P := fun i1 j => j = i1 + 1 ∧ ∃ y z', R[i1]? = some (turnD y z') ∧ DoneR ws b want y ∧ DoneR ws c want z') eel hel (s79 _ _ e7) (by omega) (fun i1 fl' H' Q' hi1 s' hq => ?_) fun fl' gs x7 H' ef hgl hgs s' => ?_
    · have sA := s79.trans s'
      have eaA := sA _ _ ea27
      have hA := h7.same sA
      have erA := hA.l.er
      walk_at "gg"
      rename_i b1 J1 m1 f1 r1
      have erB := r1 _ _ erA
      refine g_slJ erB fun c2 J2 f2 r2 => ?_
      rw [show ((i1 : Nat) : Int) + 1 = ((i1 : Nat) : Int) + ((1 : Nat) : Int) from rfl, cut_at] at f2
      have r12 := r1.trans r2
      have hB := hA.same r12
      walk_at "gg"
      refine ⟨z, c2, _, (R.drop i1).take 1, _, a, b, c, d, dom, ws, want, rfl, ⟨⟨f2, (hB.l.tr.drop i1).take 1, (h.l.ni.drop i1).take 1, (h.l.sh.drop i1).take 1⟩, hB.tv, hB.pre, h.wok⟩, List.length_take_le _ _, hm, hw, fun b0 J3 hb0 r3 => ?_⟩
      walk_at "gg"
      refine g_slL (.of (r3 _ _ (r2 _ _ f1))) ?_
      rw [cut_pair]
      walk_at "gg"
      rename_i b4 J4 m4 f4 r4
      refine hq b4 (if b0 = true then [i1 + 1] else []) J4 (by rw [f4]; cases b0 <;> simp [natsV]) (by cases b0 <;> simp) (fun j => ?_) (r12.trans (r3.trans r4))
      by_cases hbt : b0 = true
      · rw [if_pos hbt, List.mem_singleton]
        obtain ⟨y, z', e1, h1, h2⟩ := hb0.mp hbt
        exact ⟨fun h => ⟨h, y, z', take1_at.mp e1, h1, h2⟩, fun h => h.1⟩
      · rw [if_neg hbt]
        exact ⟨fun h => (by cases h), fun ⟨_, y, z', e1, h1, h2⟩ => absurd (hb0.mpr ⟨y, z', take1_at.mpr e1, h1, h2⟩) hbt⟩
    · have sA := s79.trans s'
      have eaA := sA _ _ ea27
      walk_at "gg"
      rename_i c1 J1 m1 f1 r1
      walk_at "gg"
      refine fin (r1 _ _ ef) (by rw [List.length_append]; omega) (fun j => ?_) (s07.trans (sA.trans r1))
      rw [List.mem_append, hfs, hgs, end_when]
      refine or_congr_right ?_
      exact ⟨fun ⟨i1, h1, h2⟩ => ⟨i1, (he _).mp h1, h2⟩, fun ⟨i1, h1, h2⟩ => ⟨i1, (he _).mpr h1, h2⟩⟩
  | two k a b =>
    have hk : k.isOp = true := by
      cases e : k.isOp
      · exact absurd (show (!k.isOp) = true from by rw [e]; rfl) hb
      · rfl
    obtain ⟨pa', u1, u2, u3, epa, ea2, t1, t2, t3⟩ := id (Tp.three h.tv)
    cases epa
    rw [t1.str_inv] at ea2
    have e : (Part.two k a b).deep = 1 + max a.deep b.deep := rfl
    have ea27 := s07 _ _ ea2
    clear ea ea7 ea2
    walk_at "gg"
    refine g_F (by cases k <;> decide +kernel) ?_
    walk_at "gg"
    rename_i a8 H8 n8 e8 s8
    refine g_inX (r := false) e8 rfl (by cases k <;> decide +kernel) ?_
    have ea28 := s8 _ _ ea27
    walk_at "gg"
    refine g_F (by cases k <;> decide +kernel) ?_
    walk_at "gg"
    rename_i a9 H9 n9 e9 s9
    refine g_inX (r := true) e9 rfl ((op_in k).trans hk) ?_
    have ea29 := s9 _ _ ea28
    walk_at "gg"
    rename_i b1 J1 m1 f1 r1 b2 J2 m2 f2 r2 b3 J3 m3 f3 r3 b4 J4 m4 f4 r4
    refine g_slL (.of f4) ?_
    rw [cut_pair]
    walk_at "gg"
    rename_i b5 J5 m5 f5 r5
    refine g_addL (r5 _ _ (r4 _ _ (r3 _ _ f2))) f5 (by simp only [List.length_singleton]; split <;> (show _ ≤ 16777216; simp)) ?_
    walk_at "gg"
    rename_i du J6 m6 f6 r6
    have r25 := r3.trans (r4.trans (r5.trans r6))
    have s76 := s8.trans (s9.trans (r1.trans (r2.trans r25)))
    have tdu : Tps J6 _ ([nowD k.word] ++ pairD want) := Tps.append (.one (.tup (r25 _ _ (r2 _ _ f1)) (.cons (.str _) (.one (.str _))))) (show Tps J6 (if decide (want = "pair") = true then [V.ref b3] else []) (pairD want) by
      unfold pairD
      by_cases hp : want = "pair"
      · rw [if_pos hp, if_pos (decide_eq_true hp)]
        exact .one (.tup (r6 _ _ (r5 _ _ (r4 _ _ f3))) (.cons (.str _) (.one (.str _))))
      · rw [if_neg hp, if_neg (by rw [decide_eq_false hp]; decide)]
        exact .nil)
    have hnd : Nices ([nowD k.word] ++ pairD want) := Nices.app ⟨now_nice k, trivial⟩ (pair_nice want)
    have hsd : ShowAll 80 150000 ([nowD k.word] ++ pairD want) := by
      have hn : ShowAll 1 15 [nowD k.word] := ShowAll.one (show2 (k := 3) (m := 5) (asc (by decide) (by decide)) (by cases k <;> exact asc (by decide) (by decide)) (by decide))
      exact (hn.app (pairD_show want)).mono (by decide) (by decide)
    have hJ6 := h7.same s76
    have eaJ := s76 _ _ ea27
    refine g_seqL ?_
    walk_at "gg"
    refine ⟨z, ra, us, R, i, u2, a, d, dom, ws, "number", rfl, QPre.same ⟨h.l, t2, h.pre.kid0 (two_plain k a b) (by simp [Part.kids]), h.wok⟩ (s07.trans s76), by omega, .inr (.inl rfl), fun el es L1 nel eel hel he l1 => ?_⟩
    have s71 := s76.trans l1
    walk_at "gg"
    refine for_L (xs := natsV es) (fun n σ H' => ∃ (fl' : Addr) (x7 x9 : Option V) (gs : List Nat), σ = [some (.ref ra), some (.int (i : Nat)), some (.ref pa), some (.str want), some (.ref d), some (.ref al), some (.ref fl'), x7, some (.ref du), x9] ∧ H' fl' = some (.lst (natsV (fs ++ gs))) ∧ gs.length ≤ n ∧
        (∀ j, j ∈ gs ↔ ∃ i1 ∈ es.take n, ∃ i2, EndAt ws R b "number" i1 i2 ∧ StandAt R ([nowD k.word] ++ pairD want) i2 j) ∧ Same L1 H')
      (fun n σ H' ⟨_, _, _, _, _, _, _, _, s⟩ => s _ _ eel) ⟨fl, _, _, [], rfl, by rw [List.append_nil]; exact s71 _ _ e7, Nat.le_refl _, by simp, .refl _⟩ ?_ ?_
    · rintro n x σ L2 hx ⟨fl', x7', x9', gs, rfl, ef2, hgl, hgs, l2⟩
      rw [List.getElem?_map] at hx
      obtain ⟨i1, hi1, rfl⟩ := Option.map_eq_some_iff.mp hx
      have hn : n < es.length := (List.getElem?_eq_some_iff.mp hi1).1
      have s72 := s71.trans l2
      have eaL := s72 _ _ ea27
      walk_at "gg"
      refine g_seqL ?_
      walk_at "gg"
      refine ⟨z, ra, us, R, i1, u3, b, d, dom, ws, "number", rfl, QPre.same ⟨h.l, t3, h.pre.kid0 (two_plain k a b) (by simp [Part.kids]), h.wok⟩ (s07.trans s72), by omega, .inr (.inl rfl), fun el2 es2 L3 nel2 eel2 hel2 he2 l3 => ?_⟩
      have s73 := s72.trans l3
      walk_at "gg"
      refine for_gather (P := fun i2 j => StandAt R ([nowD k.word] ++ pairD want) i2 j) eel2 hel2 (l3 _ _ ef2) (by rw [List.length_append]; omega) (fun i2 fl2 H' Q' hi2 s' hq => ?_) fun fl2 ks x7 H' ef' hkl hks s' => ?_
      · have hA := h7.same (s73.trans s')
        have du2 := s' _ _ (l3 _ _ (l2 _ _ (l1 _ _ f6)))
        walk_at "gg"
        refine ⟨z, ra, du, us, _, R, _, i2, rfl, hA.l, du2, tdu.mono (Same.tk (l1.trans (l2.trans (l3.trans s')))), hnd, hsd, fun l gs' M1 g1 g2 hgl' hgs' r1 => ?_⟩
        exact hq l gs' M1 g2 hgl' hgs' r1
      · refine ⟨fl2, x7, _, gs ++ ks, rfl, by rw [ef', List.append_assoc], by rw [List.length_append]; omega, fun j => ?_, l2.trans (l3.trans s')⟩
        rw [List.mem_append, hgs, hks, tk_step hi1]
        refine or_congr_right ?_
        exact ⟨fun ⟨i2, h1, h2⟩ => ⟨i2, (he2 _).mp h1, h2⟩, fun ⟨i2, h1, h2⟩ => ⟨i2, (he2 _).mpr h1, h2⟩⟩
    · rintro σ L2 ⟨fl', x7', x9', gs, rfl, ef2, hgl, hgs, l2⟩
      rw [List.length_map] at hgl hgs
      rw [List.take_length] at hgs
      walk_at "gg"
      refine fin ef2 (by rw [List.length_append]; omega) (fun j => ?_) (s07.trans (s71.trans l2))
      rw [List.mem_append, hfs, hgs, end_op hk]
      refine or_congr_right ?_
      constructor
      · rintro ⟨i1, h1, i2, h2, h3⟩
        exact ⟨i1, (he _).mp h1, i2, h2, stand_app.mp h3⟩
      · rintro ⟨i1, h1, i2, h2, h3⟩
        exact ⟨i1, (he _).mpr h1, i2, h2, stand_app.mpr h3⟩
  | letp r a =>
    obtain ⟨pa', ra', rs', u, epa, ea2, er2, tr2, tb⟩ := letTp h.tv
    cases epa
    have e : (Part.letp r a).deep = 1 + max r.deep a.deep := rfl
    have e22 : (Part.letp r a).size = 1 + (r.size + a.size) := rfl
    have ea27 := s07 _ _ ea2
    clear ea ea7 ea2
    walk_at "gg"
    refine g_seqL ?_
    walk_at "gg"
    refine ⟨_, r, a, d, dom, ws, rfl, h7.tv, h7.pre, hd12, fun l8 us8 H8 n8 e8 tu8 s8 => ?_⟩
    have h8 := h7.same s8
    have hol := opened_len ws r
    have hso : ShowAll 80 150000 (r.opened ws) := (opened_show h.wok h.pre.n.2.2.1 h.pre.n.1).mono (by decide) (by omega)
    walk_at "gg"
    refine ⟨z, ra, l8, us, _, R, r.opened ws, i, rfl, h8.l, e8, tu8, opened_nice h.wok h.pre.n.2.2.1, hso, fun l9 os H9 n9 e9 hol9 hos s9 => ?_⟩
    have s79 := s8.trans s9
    walk_at "gg"
    refine for_gather (P := fun i1 j => EndAt ws R a want i1 j) e9 hol9 (s79 _ _ e7) (by omega) (fun i1 fl' H' Q' hi1 s' hq => ?_) fun fl' gs x7 H' ef hgl hgs s' => ?_
    · have sA := s79.trans s'
      have eaA := sA _ _ ea27
      have hA := h7.same sA
      walk_at "gg"
      refine ⟨z, ra, us, R, i1, u, a, d, dom, ws, want, rfl, ⟨hA.l, tb.mono (Same.tk (s07.trans sA)), h.pre.letb (s07.trans sA), h.wok⟩, by omega, hw, fun l es J1 m1 f1 hes he r1 => ?_⟩
      exact hq l es J1 f1 hes he r1
    · have sA := s79.trans s'
      have eaA := sA _ _ ea27
      walk_at "gg"
      rename_i b1 J1 m1 f1 r1 b2 J2 m2 f2 r2
      refine fin (r2 _ _ (r1 _ _ ef)) (by rw [List.length_append]; omega) (fun j => ?_) (s07.trans (sA.trans (r1.trans r2)))
      rw [List.mem_append, hfs, hgs]
      constructor
      · rintro (h1 | ⟨i1, h1, h2⟩)
        · exact ⟨_, .bld _ _, h1.1, h1.2⟩
        · exact end_let.mpr ⟨i1, (hos _).mp h1, h2⟩
      · intro h1
        obtain ⟨i1, h2, h3⟩ := end_let.mp h1
        exact .inr ⟨i1, (hos _).mpr h2, h3⟩
end

/-! ### a law's own judge: whether anything is let by; the rows of all functions -/
def spLLetBy : Sp := fun vs H Q _ => ∃ (z : Addr) (v t : V) (P : Prog) (f : Str) (j : Nat) (p : Part) (ts : List Str) (d : PyData), vs = [v, .str f, t] ∧ Tp H v P.data ∧ P.fine ∧ FnAt P f j p ts ∧ Dj z H t d ∧ Nice d ∧ ShowOk 80 150000 d ∧
  ∀ (b : Bool) (H' : Hp), (b = true ↔ LetBy (waysOf ts p) p d) → Same H H' → Q (.bl b) H'
theorem back_nice : Nice backD := ⟨by show ∀ c ∈ _, _; decide +kernel, trivial⟩
theorem pure_lletby {K : PySem.W.Frag} {w : World} : PureOk 3 spLLetBy (t_law_let_by K w (spSame K) spLBodyOf (spEndsL 12) spLWays) 4 := by
  refine ⟨fun vs H Q E ⟨_, _, _, _, _, _, _, _, _, e, _⟩ => by rw [e]; rfl, ?_⟩
  rintro vs H Q E ⟨z, v, t, P, f, j, p, ts, d, rfl, tP, hfine, hA, ht, hni, hsh, q⟩
  show t_law_let_by K w _ _ _ _ _ [some v, some (.str f), some t, none] H
  unfold t_law_let_by
  walk_at "gg"
  refine g_isi ht.jq.ty (kit_tuple ht.jq) ?_
  walk_at "gg"
  have no : ∀ {d : PyData}, isTupD d = false → ∀ {b : Bool}, b = false → (b = true ↔ LetBy (waysOf ts p) p d) := fun hd b hb => ⟨fun h => (by rw [hb] at h; cases h), fun ⟨x, e, _⟩ => (by rw [e] at hd; cases hd)⟩
  cases ht with
  | str x => exact g_T rfl (by walk_at "gg"; exact q false H (no rfl rfl) (.refl _))
  | non => exact g_T rfl (by walk_at "gg"; exact q false H (no rfl rfl) (.refl _))
  | bl b => exact g_T rfl (by walk_at "gg"; exact q false H (no rfl rfl) (.refl _))
  | int i => exact g_T rfl (by walk_at "gg"; exact q false H (no rfl rfl) (.refl _))
  | lst n e r => exact g_T rfl (by walk_at "gg"; exact q false H (no rfl rfl) (.refl _))
  | @tup a xs ds na ea txs =>
    refine g_F rfl ?_
    walk_at "gg"
    rename_i a1 H1 n1 e1 s1
    have ea1 := s1 _ _ ea
    refine g_eqT ea1 e1 ?_
    walk_at "gg"
    cases hx : xs with
    | nil =>
      rw [hx] at txs
      cases txs
      refine g_T rfl ?_
      walk_at "gg"
      refine q false H1 ⟨fun h => (by cases h), fun ⟨x, e, _⟩ => ?_⟩ s1
      have := PyData.tuple.inj e
      simp at this
    | cons x0 xs0 =>
      have hlen : xs.length = xs0.length + 1 := by rw [hx]; rfl
      generalize xs0.length = n at hlen
      refine g_F rfl ?_
      have hat : xs[n]? = some xs[n] := List.getElem?_eq_getElem (by omega)
      obtain ⟨dl, hdl, tl⟩ := txs.at hat
      have hds : ds = ds.take n ++ [dl] := by
        have hl := txs.length
        have h1 := (List.take_append_drop n ds).symm
        have h2 : ds.drop n = [dl] := by
          rw [List.drop_eq_getElem_cons (by omega), List.drop_eq_nil_of_le (by omega)]
          have := (List.getElem?_eq_some_iff.mp hdl).2
          rw [this]
        rw [h2] at h1
        exact h1
      walk_at "gg"
      refine g_ixT (.of ea1) (v := xs[n]) (at_last hlen hat) ?_
      walk_at "gg"
      rename_i a2 H2 n2 e2 s2
      have s02 := s1.trans s2
      have hndl : Nice dl := Nices.iff.mp hni dl (List.mem_of_getElem? hdl)
      refine ⟨_, _, dl, backD, 80, 150000, rfl, (tl.mono (.same s02)).dp, .tup (.of e2) (.cons (.str _) .nil), hsh.untup.at hdl, back_show.mono (by decide) (by decide), by decide, by decide, ?_⟩
      refine ⟨_, rfl, ?_⟩
      have hiff : dl.shown = backD.shown ↔ dl = backD := shown_eq hndl back_nice
      by_cases hdb : dl = backD
      · obtain rfl := hdb
        rw [decide_eq_true rfl]
        walk_at "gg"
        refine ⟨v, P, f, j, p, ts, rfl, tP.mono (Same.tk s02), hfine, hA, fun ba bb bv H3 e3 eb3 t3 s3 => ?_⟩
        have s03 := s02.trans s3
        have ea3 := s03 _ _ ea
        walk_at "gg"
        refine g_slJ ea3 fun c H4 e4 s4 => ?_
        rw [cut_init hlen] at e4
        have s04 := s03.trans s4
        walk_at "gg"
        refine ⟨v, P, f, j, p, ts, rfl, tP.mono (Same.tk s04), hfine, hA, fun wd H5 w5 s5 => ?_⟩
        have s05 := s04.trans s5
        walk_at "gg"
        refine ⟨z, c, _, ds.take n, 0, bv, p, wd, _, _, "", rfl, ⟨⟨s5 _ _ e4, (txs.mono (.same s05)).take n, Nices.take n hni, hsh.untup.take n⟩, t3.mono (Same.tk (s4.trans s5)), hA.pre w5, hA.wsok⟩, hA.deep, .inl rfl, fun l es H6 nl el hel he s6 => ?_⟩
        rw [show ((xs.length : Nat) : Int) - 1 = ((n : Nat) : Int) from by omega]
        refine g_inN el ?_
        refine q _ H6 ?_ (s05.trans s6)
        have hl := txs.length
        have hln : (ds.take n).length = n := by rw [List.length_take]; omega
        have hwh := end_whole (ws := waysOf ts p) (R := ds.take n) (p := p) (want := "")
        rw [hln] at hwh
        rw [decide_eq_true_eq, he, hwh]
        constructor
        · intro h
          exact ⟨_, by rw [← hds], h⟩
        · rintro ⟨x, e, h⟩
          have e' := PyData.tuple.inj e
          rw [hds] at e'
          have := (List.append_inj_left' e' rfl)
          rw [this]
          exact h
      · rw [decide_eq_false (fun h => hdb (hiff.mp h))]
        walk_at "gg"
        refine q false H2 ⟨fun h => (by cases h), fun ⟨x, e, _⟩ => absurd ?_ hdb⟩ s02
        have e' := PyData.tuple.inj e
        rw [hds] at e'
        have := (List.append_inj_right' e' rfl)
        injection this with this _
/-! ### the rows of all functions -/
theorem FnAt.same {P : Prog} (hF : P.fine) {f : Str} {j j' : Nat} {p p' : Part} {ts ts' : List Str} (h : FnAt P f j p ts) (h' : FnAt P f j' p' ts') (hf : f ∈ P.names ∨ f ∉ P.names) : p = p' ∧ ts = ts' := by
  rcases hf with hf | hf
  · obtain ⟨fn, hm, e⟩ := List.mem_map.mp hf
    obtain ⟨i, hi⟩ := List.mem_iff_getElem?.mp hm
    obtain ⟨rfl, rfl⟩ := h.of_name hF hi e
    obtain ⟨rfl, rfl⟩ := h'.of_name hF hi e
    exact ⟨rfl, rfl⟩
  · obtain ⟨rfl, rfl⟩ := h.of_asked hf
    obtain ⟨rfl, rfl⟩ := h'.of_asked hf
    exact ⟨rfl, rfl⟩
open Classical in
/-- the rows of a function by its name -/
noncomputable def rowsBy (F : (Str → Way) → Part → List PyData) (P : Prog) (f : Str) : List PyData :=
  if h : ∃ q : Part × List Str, ∃ j, FnAt P f j q.1 q.2 then F (waysOf (choose h).2 (choose h).1) (choose h).1 ++ [backD] else []
def rowsF (lean : Bool) : (Str → Way) → Part → List PyData := if lean = true then fun ws p => p.dn ws "" else fun ws p => p.bld ws
def allF (P : Prog) : List Str := P.names ++ [("" : Str)]
noncomputable def allRowsD (lean : Bool) (P : Prog) : List PyData := (allF P).map fun f => .tuple (rowsBy (rowsF lean) P f)
theorem allF_at {P : Prog} (hF : P.fine) {f : Str} (h : f ∈ allF P) : ∃ j p ts, FnAt P f j p ts := hF.fnAt ((List.mem_append.mp h).imp id List.mem_singleton.mp)
def spAllRows : Sp := fun vs H Q _ => ∃ (v : V) (P : Prog) (lean : Bool), vs = [v, .bl lean] ∧ Tp H v P.data ∧ P.fine ∧
  ∀ (a : Addr) (us : List V) (H' : Hp), H' a = some (.tup us) → Tps H' us (allRowsD lean P) → Same H H' → Q (.ref a) H'
section
variable {K : PySem.W.Frag} {w : World}
end

/-! ### things that may stand for rows: what they are, how great -/
mutual
def Sm (B : Nat) : PyData → Prop
  | .int i => i.natAbs < B
  | .tuple ds => Sms B ds
  | .list ds => Sms B ds
  | .none => True
  | .bool _ => True
  | .str _ => True
  | .dict _ => True
def Sms (B : Nat) : List PyData → Prop
  | [] => True
  | d :: ds => Sm B d ∧ Sms B ds
end
theorem Sms.iff {B : Nat} : ∀ {ds : List PyData}, Sms B ds ↔ ∀ d ∈ ds, Sm B d
  | [] => ⟨fun _ d h => (by cases h), fun _ => trivial⟩
  | d :: ds => ⟨fun h e he => (List.mem_cons.mp he).elim (fun q => q ▸ h.1) fun q => Sms.iff.mp h.2 e q, fun h => ⟨h d (by simp), Sms.iff.mpr fun e he => h e (by simp [he])⟩⟩
mutual
theorem Sm.up {B B' : Nat} (hb : B ≤ B') : ∀ {d : PyData}, Sm B d → Sm B' d
  | .int i, h => Nat.lt_of_lt_of_le h hb
  | .tuple ds, h => Sms.up hb (ds := ds) h
  | .list ds, h => Sms.up hb (ds := ds) h
  | .none, h => h
  | .bool _, h => h
  | .str _, h => h
  | .dict _, h => h
theorem Sms.up {B B' : Nat} (hb : B ≤ B') : ∀ {ds : List PyData}, Sms B ds → Sms B' ds
  | [], _ => trivial
  | d :: ds, h => ⟨Sm.up hb h.1, Sms.up hb h.2⟩
end
theorem Sms.app {B : Nat} {a b : List PyData} (ha : Sms B a) (hb : Sms B b) : Sms B (a ++ b) := Sms.iff.mpr fun d hd => (List.mem_append.mp hd).elim (Sms.iff.mp ha d) (Sms.iff.mp hb d)
theorem Sms.take {B : Nat} {ds : List PyData} (n : Nat) (h : Sms B ds) : Sms B (ds.take n) := Sms.iff.mpr fun d hd => Sms.iff.mp h d (List.mem_of_mem_take hd)
theorem Sms.drop {B : Nat} {ds : List PyData} (n : Nat) (h : Sms B ds) : Sms B (ds.drop n) := Sms.iff.mpr fun d hd => Sms.iff.mp h d (List.mem_of_mem_drop hd)
theorem numS_len2 {n : Int} (h : n.natAbs < 10 ^ 62) : (numS n).length ≤ 63 := by
  unfold numS
  cases n with
  | ofNat m =>
    have h1 : (Int.ofNat m) < 10 ^ 62 := by
      have : (Int.ofNat m).natAbs = m := rfl
      show (m : Int) < 10 ^ 62
      omega
    have := PyProof.Rows.toString_length_le (v := Int.ofNat m) (Int.natCast_nonneg m) (k := 62) (by decide) h1
    omega
  | negSucc m =>
    have h1 : ((m + 1 : Nat) : Int) < 10 ^ 62 := by
      have : (Int.negSucc m).natAbs = m + 1 := rfl
      omega
    have h2 := PyProof.Rows.toString_length_le (v := ((m + 1 : Nat) : Int)) (Int.natCast_nonneg _) (k := 62) (by decide) h1
    rw [PyProof.Rows.ofString_length] at h2 ⊢
    have h3 : toString (Int.negSucc m) = "-" ++ toString ((m + 1 : Nat) : Int) := rfl
    rw [h3, String.toList_append, List.length_append]
    have : ("-" : String).toList.length = 1 := by decide
    omega
theorem ShowOk.num2 {n : Int} (h : n.natAbs < 10 ^ 62) : ShowOk 0 0 (.int n) :=
  ⟨by
    rw [PyData.showable]
    refine decide_eq_true ?_
    by_cases h0 : n.natAbs = 0
    · rw [h0]; decide
    · have : n.natAbs.log2 < 210 := by
        rw [Nat.log2_lt h0]
        exact Nat.lt_trans h (by decide)
      omega, by rw [PyData.hasDict], by
    rw [PyData.leavesShort]
    refine decide_eq_true ?_
    have := numS_len2 h
    have e : (PyData.int n).shown = numS n := by rw [PyData.shown]; rfl
    rw [e]
    omega, by rw [PyData.canLay0], by rw [PyData.depth]; exact Nat.le_refl _, by rw [PyData.bulk]; exact Nat.le_refl _⟩
structure Itm (z : Addr) (B : Nat) (H : Hp) (D N : Nat) (v : V) (d : PyData) : Prop where
  dj : Dj z H v d
  ni : Nice d
  sm : Sm B d
  sh : ShowOk D N d
structure Its (z : Addr) (B : Nat) (H : Hp) (D N : Nat) (vs : List V) (ds : List PyData) : Prop where
  dj : Djs z H vs ds
  ni : Nices ds
  sm : Sms B ds
  sh : ShowAll D N ds
section
variable {z : Addr} {B : Nat} {H H' : Hp} {D N n m : Nat} {v : V} {d : PyData} {vs us : List V} {ds es : List PyData} {a : Addr}
theorem Itm.mono (h : Itm z B H D N v d) (c : Chg z H H') : Itm z B H' D N v d := ⟨h.dj.mono c, h.ni, h.sm, h.sh⟩
theorem Its.mono (h : Its z B H D N vs ds) (c : Chg z H H') : Its z B H' D N vs ds := ⟨h.dj.mono c, h.ni, h.sm, h.sh⟩
theorem Itm.same (h : Itm z B H D N v d) (s : Same H H') : Itm z B H' D N v d := h.mono (.same s)
theorem Its.same (h : Its z B H D N vs ds) (s : Same H H') : Its z B H' D N vs ds := h.mono (.same s)
theorem Itm.up {D' N' : Nat} (h : Itm z B H D N v d) (hD : D ≤ D') (hN : N ≤ N') : Itm z B H D' N' v d := ⟨h.dj, h.ni, h.sm, h.sh.mono hD hN⟩
theorem Its.up {D' N' : Nat} (h : Its z B H D N vs ds) (hD : D ≤ D') (hN : N ≤ N') : Its z B H D' N' vs ds := ⟨h.dj, h.ni, h.sm, h.sh.mono hD hN⟩
theorem Its.nil : Its z B H D N [] [] := ⟨.nil, trivial, trivial, .nil⟩
theorem Its.cons (h : Itm z B H D n v d) (t : Its z B H D m vs ds) : Its z B H D (n + 1 + m) (v :: vs) (d :: ds) := ⟨.cons h.dj t.dj, ⟨h.ni, t.ni⟩, ⟨h.sm, t.sm⟩, ShowAll.cons h.sh t.sh⟩
theorem Its.one (h : Itm z B H D n v d) : Its z B H D (n + 1) [v] [d] := Its.cons h (Its.nil (N := 0))
theorem Djs.app : ∀ {vs us : List V} {ds es : List PyData}, Djs z H vs ds → Djs z H us es → Djs z H (vs ++ us) (ds ++ es)
  | _, _, _, _, .nil, t => t
  | _, _, _, _, .cons a r, t => .cons a (Djs.app r t)
theorem Its.app (h : Its z B H D n vs ds) (t : Its z B H D m us es) : Its z B H D (n + m) (vs ++ us) (ds ++ es) := ⟨h.dj.app t.dj, h.ni.app t.ni, h.sm.app t.sm, ShowAll.app h.sh t.sh⟩
theorem Its.take (k : Nat) (h : Its z B H D N vs ds) : Its z B H D N (vs.take k) (ds.take k) := ⟨h.dj.take k, h.ni.take k, h.sm.take k, h.sh.take k⟩
theorem Its.drop (k : Nat) (h : Its z B H D N vs ds) : Its z B H D N (vs.drop k) (ds.drop k) := ⟨h.dj.drop k, h.ni.drop k, h.sm.drop k, h.sh.drop k⟩
theorem Its.at {i : Nat} (h : Its z B H D N vs ds) (e : vs[i]? = some v) : ∃ d, ds[i]? = some d ∧ Itm z B H D N v d := by
  obtain ⟨d, hd, t⟩ := h.dj.at e
  exact ⟨d, hd, t, Nices.iff.mp h.ni d (List.mem_of_getElem? hd), Sms.iff.mp h.sm d (List.mem_of_getElem? hd), h.sh.at hd⟩
theorem Itm.tup (n : a ≠ z) (e : H a = some (.tup vs)) (h : Its z B H D N vs ds) : Itm z B H (D + 1) N (.ref a) (.tuple ds) := ⟨.tup n e h.dj, h.ni, h.sm, ShowOk.tup h.sh⟩
theorem Itm.lst (n : a ≠ z) (e : H a = some (.lst vs)) (h : Its z B H D N vs ds) : Itm z B H (D + 1) N (.ref a) (.list ds) := ⟨.lst n e h.dj, h.ni, h.sm, ShowOk.lst h.sh⟩
theorem Itm.untup (h : Itm z B H D N v (.tuple ds)) : ∃ a vs, v = .ref a ∧ a ≠ z ∧ H a = some (.tup vs) ∧ Its z B H D N vs ds := by
  have hs := h.sh.untup
  obtain ⟨hd, hn, hm, _⟩ := h
  cases hd with
  | tup n e r => exact ⟨_, _, rfl, n, e, r, hn, hm, hs⟩
/-- a tuple's items are less deep -/
theorem Itm.untup1 (h : Itm z B H (D + 1) N v (.tuple ds)) : ∃ a vs, v = .ref a ∧ a ≠ z ∧ H a = some (.tup vs) ∧ Its z B H D N vs ds := by
  obtain ⟨a, vs, e1, e2, e3, t⟩ := h.untup
  have hd := h.sh.dp
  rw [PyData.depth] at hd
  exact ⟨a, vs, e1, e2, e3, t.dj, t.ni, t.sm, t.sh.sh, t.sh.nd, t.sh.sl, t.sh.cl, by omega, t.sh.bk⟩
theorem Itm.str {x : Str} (h : ∀ c ∈ x.cps.toList, 97 ≤ c ∧ c ≤ 122) (hl : x.length ≤ N) : Itm z B H D N (.str x) (.str x) := ⟨.str x, h, trivial, (ShowOk.str (fun c hc => by have := h c hc; omega) hl).mono (Nat.zero_le _) (Nat.le_refl _)⟩
theorem Itm.int {i : Int} (h : i.natAbs < 10 ^ 62) (h2 : i.natAbs < B) : Itm z B H D N (.int i) (.int i) := ⟨.int i, trivial, h2, (ShowOk.num2 h).mono (Nat.zero_le _) (Nat.zero_le _)⟩
theorem Itm.bl {b : Bool} : Itm z B H D N (.bl b) (.bool b) := ⟨.bl b, trivial, trivial, ShowOk.bl.mono (Nat.zero_le _) (Nat.zero_le _)⟩
theorem Itm.non : Itm z B H D N .non .none := ⟨.non, trivial, trivial, ShowOk.non.mono (Nat.zero_le _) (Nat.zero_le _)⟩
end
theorem PenAt.neT {H : Hp} {pen L a : Addr} {xs : List V} (h : PenAt H pen L) (e : H a = some (.tup xs)) : a ≠ pen := fun z => by
  obtain ⟨_, _, _, hp, _⟩ := h
  rw [z, hp] at e
  cases e
theorem g_addTJ {K : PySem.W.Frag} {H : Hp} {Q : VK} {a b : Addr} {xs ys : List V} (h1 : H a = some (.tup xs)) (h2 : H b = some (.tup ys)) (hl : xs.length + ys.length ≤ sizeLine) (q : ∀ c H', H' c = some (.tup (xs ++ ys)) → Same H H' → Q (.ref c) H') : rAddG K (.ref a) (.ref b) H Q := by
  refine .inr (.inr (.inr ⟨a, b, xs, ys, rfl, rfl, .of h1, .of h2, hl, fun e => ?_, fun _ e => ?_, fun _ _ p H' _ e s => q p H' e s⟩))
  · subst e; exact q b H h2 (.refl _)
  · subst e; exact q a H (by rw [List.append_nil]; exact h1) (.refl _)
/-! ### what expressions tell: things that may stand for rows, behind draws -/
section
variable {K : PySem.W.Frag} {w : World} (pen L : Addr)
section
variable (B : Nat) (σ : L2.St) (H0 : Hp)
def Gv (te : TE) (D N : Nat) : Prop := ∀ (H : Hp) (Q : VK), Chg pen H0 H → PenAt H pen L → (∀ v d H', Itm pen B H' D N v d → Chg pen H H' → PenAt H' pen L → Q v H') → te σ H Q
def GvT (te : TE) (D N n : Nat) : Prop := ∀ (H : Hp) (Q : VK), Chg pen H0 H → PenAt H pen L → (∀ a vs ds H', a ≠ pen → H' a = some (.tup vs) → Its pen B H' D N vs ds → vs.length ≤ n → Chg pen H H' → PenAt H' pen L → Q (.ref a) H') → te σ H Q
def GvA (ta : TA) (D N n : Nat) : Prop := ∀ (H : Hp) (Q : List V → Hp → Prop), Chg pen H0 H → PenAt H pen L → (∀ vs ds H', Its pen B H' D N vs ds → vs.length = n → Chg pen H H' → PenAt H' pen L → Q vs H') → ta σ H Q
def GvS (ta : TA) (D N n : Nat) : Prop := ∀ (H : Hp) (Q : List V → Hp → Prop), Chg pen H0 H → PenAt H pen L → (∀ vs H', (∀ v ∈ vs, ∃ d, Itm pen B H' D N v d) → vs.length = n → Chg pen H H' → PenAt H' pen L → Q vs H') → ta σ H Q
end
section
variable (σ : L2.St) (H0 : Hp)
def GvN (te : TE) (P : Int → Prop) : Prop := ∀ (H : Hp) (Q : VK), Chg pen H0 H → PenAt H pen L → (∀ i H', P i → Chg pen H H' → PenAt H' pen L → Q (.int i) H') → te σ H Q
def GvO (to : TO) : Prop := ∀ (H : Hp) (Q : Option Int → Hp → Prop), Chg pen H0 H → PenAt H pen L → (∀ o H', Chg pen H H' → PenAt H' pen L → Q o H') → to σ H Q
end
end
section
variable {K : PySem.W.Frag} {w : World} {pen L : Addr} {σ : L2.St} {H0 : Hp} {D N n m k l D' N' B : Nat} {te A C : TE} {ta tr : TA} {tl th : TO} {x : Str} {i : Int} {j : Nat} {v : V} {d : PyData} {a : Addr} {vs : List V} {ds : List PyData} {P : Int → Prop}
theorem Gv.up (h : Gv pen L B σ H0 te D N) (hD : D ≤ D') (hN : N ≤ N') : Gv pen L B σ H0 te D' N' := fun H Q c hP q => h H Q c hP fun v d H' hv c' hP' => q v d H' (hv.up hD hN) c' hP'
theorem GvT.up (h : GvT pen L B σ H0 te D N n) (hD : D ≤ D') (hN : N ≤ N') : GvT pen L B σ H0 te D' N' n := fun H Q c hP q => h H Q c hP fun a vs ds H' na ea hv hl c' hP' => q a vs ds H' na ea (hv.up hD hN) hl c' hP'
theorem gv_str (hx : ∀ c ∈ x.cps.toList, 97 ≤ c ∧ c ≤ 122) (hl : x.length ≤ N) : Gv pen L B σ H0 (tC (.str x)) D N := fun H Q c hP q => q _ _ H (.str hx hl) .refl hP
theorem gv_int (h : i.natAbs < 100) (hB : 100 ≤ B) : Gv pen L B σ H0 (tC (.int i)) D N := fun H Q c hP q => q _ _ H (.int (Nat.lt_trans h (by decide)) (Nat.lt_of_lt_of_le h hB)) .refl hP
theorem gv_non : Gv pen L B σ H0 (tC .non) D N := fun H Q c hP q => q _ _ H .non .refl hP
theorem gvT_var (e : σ[j]? = some (some (.ref a))) (na : a ≠ pen) (ea : H0 a = some (.tup vs)) (h : Its pen B H0 D N vs ds) (hl : vs.length ≤ n) : GvT pen L B σ H0 (tVar j) D N n :=
  fun H Q c hP q => ⟨_, e, q a vs ds H na (c _ _ na ea) (h.mono c) hl .refl hP⟩
theorem gvA_nil : GvA pen L B σ H0 tNil D 0 0 := fun H Q c hP q => q [] [] H .nil rfl .refl hP
theorem gvA_cons (h : Gv pen L B σ H0 te D n) (t : GvA pen L B σ H0 tr D m k) : GvA pen L B σ H0 (tCons te tr) D (n + 1 + m) (k + 1) := fun H Q c hP q =>
  h H _ c hP fun v d H1 hv c1 hP1 => t H1 _ (c.trans c1) hP1 fun vs ds H2 hvs hl c2 hP2 => q _ _ H2 (.cons (hv.mono c2) hvs) (by rw [List.length_cons, hl]) (c1.trans c2) hP2
theorem gvS_nil : GvS pen L B σ H0 tNil D N 0 := fun H Q c hP q => q [] H (fun v h => by cases h) rfl .refl hP
theorem gvS_cons (h : Gv pen L B σ H0 te D N) (t : GvS pen L B σ H0 tr D N k) : GvS pen L B σ H0 (tCons te tr) D N (k + 1) := fun H Q c hP q =>
  h H _ c hP fun v d H1 hv c1 hP1 => t H1 _ (c.trans c1) hP1 fun vs H2 hvs hl c2 hP2 => q _ H2 (fun u hu => (List.mem_cons.mp hu).elim (fun e => ⟨d, e ▸ hv.mono c2⟩) (hvs u)) (by rw [List.length_cons, hl]) (c1.trans c2) hP2
theorem gvT_tup (h : GvA pen L B σ H0 ta D N n) (hn : n ≤ sizeLine) : GvT pen L B σ H0 (tTupN ta) D N n := fun H Q c hP q =>
  g_tup (h H _ c hP fun vs ds H1 hi hl c1 hP1 => ⟨by rw [hl]; exact hn, fun a H2 na ea s => q a vs ds H2 (hP1.ne na).1.symm ea (hi.same s) (by omega) (c1.trans (.same s)) (hP1.same s)⟩)
theorem GvT.gv (h : GvT pen L B σ H0 te D N n) : Gv pen L B σ H0 te (D + 1) N := fun H Q c hP q => h H Q c hP fun a vs ds H' na ea hi _ c1 hP1 => q _ _ H' (.tup na ea hi) c1 hP1
theorem gv_tup (h : GvA pen L B σ H0 ta D N n) (hn : n ≤ 1000 := by decide) : Gv pen L B σ H0 (tTupN ta) (D + 1) N := (gvT_tup h (Nat.le_trans hn (by decide))).gv
theorem gvT_add (h1 : GvT pen L B σ H0 A D N n) (h2 : GvT pen L B σ H0 C D m k) (hn : n + k ≤ sizeLine) : GvT pen L B σ H0 (tOp (rAddG K) A C) D (N + m) (n + k) := fun H Q c hP q =>
  g_op (h1 H _ c hP fun a vs ds H1 na ea hi hl c1 hP1 => h2 H1 _ (c.trans c1) hP1 fun b us es H2 nb eb hj hm c2 hP2 =>
    g_addTJ (c2 _ _ na ea) eb (by omega) fun p H3 e3 s3 => q p _ _ H3 ((hP2.same s3).neT e3) e3 (Its.app ((hi.mono c2).same s3) (hj.same s3)) (by rw [List.length_append]; omega) (c1.trans (c2.trans (.same s3))) (hP2.same s3))
theorem gvO_no : GvO pen L σ H0 tNoPart := fun H Q c hP q => g_nopart (q none H .refl hP)
theorem gvO_part (h : GvN pen L σ H0 te P) : GvO pen L σ H0 (tPart te) := fun H Q c hP q => g_part (h H _ c hP fun i H' _ c' hP' => g_ispart (q (some i) H' c' hP'))
theorem gvN_c : GvN pen L σ H0 (tC (.int i)) (· = i) := fun H Q c hP q => q i H rfl .refl hP
theorem gvN_neg : GvN pen L σ H0 (tUn (rU fun i => .int (-i)) (tC (.int i))) (· = -i) := fun H Q c hP q => ⟨i, rfl, q _ H rfl .refl hP⟩
theorem gvN_var (e : σ[j]? = some (some (.int i))) : GvN pen L σ H0 (tVar j) (· = i) := fun H Q c hP q => ⟨_, e, q _ H rfl .refl hP⟩
theorem gvN_add {P' : Int → Prop} (h1 : GvN pen L σ H0 A P) (h2 : GvN pen L σ H0 C P') : GvN pen L σ H0 (tOp (rAddG K) A C) (fun r => ∃ x y, P x ∧ P' y ∧ r = x + y) := fun H Q c hP q =>
  g_op (h1 H _ c hP fun x H1 px c1 hP1 => h2 H1 _ (c.trans c1) hP1 fun y H2 py c2 hP2 => g_addI (q _ H2 ⟨x, y, px, py, rfl⟩ (c1.trans c2) hP2))
theorem gvN_draw {a : Int} (e : σ[0]? = some (some (.ref pen))) (h0 : 0 < a) (h1 : a.natAbs < 2 ^ 250) : GvN pen L σ H0 (tCall spDraw [] E0 (tCons (tVar 0) (tCons (tC (.int a)) tNil))) (fun i => 0 ≤ i ∧ i < a) := fun H Q c hP q =>
  g_call (g_cons (g_var e (g_cons (g_c (g_nil (g_draw hP h0 h1 fun i H' lo hi hP' c' => q i H' ⟨lo, hi⟩ c' hP'))))))
theorem gvT_sl (h : GvT pen L B σ H0 te D N n) (hl : GvO pen L σ H0 tl) (hh : GvO pen L σ H0 th) : GvT pen L B σ H0 (tSl (rSlG K) te tl th) D N n := fun H Q c hP q =>
  g_sl (h H _ c hP fun a vs ds H1 na ea hi hn c1 hP1 => hl H1 _ (c.trans c1) hP1 fun lo H2 c2 hP2 => hh H2 _ (c.trans (c1.trans c2)) hP2 fun hi' H3 c3 hP3 =>
    g_slJ ((c2.trans c3) _ _ na ea) fun p H4 e4 s4 => q p _ _ H4 ((hP3.same s4).neT e4) e4 ((((hi.mono (c2.trans c3)).same s4).drop _).take _) (Nat.le_trans (cutV_length vs lo hi') hn) (c1.trans ((c2.trans c3).trans (.same s4))) (hP3.same s4))
theorem gv_list (h : GvT pen L B σ H0 te D N n) : Gv pen L B σ H0 (tCB (rListG K) (tCons te tNil)) (D + 1) N := fun H Q c hP q =>
  g_cb (g_cons (h H _ c hP fun a vs ds H1 na ea hi hn c1 hP1 => g_nil (g_listT (.of ea) fun p H2 n2 e2 s2 => q _ _ H2 (.lst (hP1.ne n2).1.symm e2 (hi.same s2)) (c1.trans (.same s2)) (hP1.same s2))))
theorem gv_ix (h : GvS pen L B σ H0 ta D N n) (hi : GvN pen L σ H0 te P) (hn : n ≤ 1000) (hP : ∀ i, P i → 0 ≤ i ∧ i < (n : Int)) : Gv pen L B σ H0 (tIxG K w (tLstN ta) te) D N := fun H Q c hP0 q =>
  g_ixop (g_lst (h H _ c hP0 fun vs H1 hv hl c1 hP1 => ⟨by rw [hl]; exact Nat.le_trans hn (by decide), fun p H2 n2 e2 s2 => hi H2 _ (c.trans (c1.trans (.same s2))) (hP1.same s2) fun i H3 pi c3 hP3 => by
    obtain ⟨lo, hi⟩ := hP i pi
    obtain ⟨v, ea, hm, _⟩ := atI_in lo (show i < vs.length by rw [hl]; exact hi)
    obtain ⟨d, hd⟩ := hv v hm
    exact g_ixL (.of (c3 _ _ (hP1.ne n2).1.symm e2)) ea (q v d H3 ((hd.same s2).mono c3) (c1.trans ((Chg.same s2).trans c3)) hP3)⟩))
end

/-! ### anything in the place of rows -/
abbrev B60 : Nat := 10 ^ 60
def Some45 (z : Addr) (H : Hp) (ts : List V) : Prop := ∀ v ∈ ts, ∃ d, Itm z B60 H 80 150000 v d
def spThingsR : Sp := fun vs H Q _ => ∃ (pen L ra : Addr) (us : List V) (R : List PyData), vs = [.ref pen, .ref ra] ∧ PenAt H pen L ∧ H ra = some (.tup us) ∧ Its pen B60 H 30 20000 us R ∧ (∀ d ∈ R, ∃ ds, d = .tuple ds) ∧ us.length ≤ 1000 ∧
  ∀ (l : Addr) (ts : List V) (H' : Hp), l ≠ pen → H' l = some (.lst ts) → ts.length ≤ 100 → Some45 pen H' ts → PenAt H' pen L → Chg pen H H' → Q (.ref l) H'
def bq : Nat → Nat
  | 0 => 30
  | n + 1 => 2 * bq n + 10
theorem back_low : ∀ c ∈ (("back" : Str)).cps.toList, 97 ≤ c ∧ c ≤ 122 := by decide +kernel
section
variable {K : PySem.W.Frag} {w : World} {pen L : Addr} {σ : L2.St} {H0 : Hp} {D N : Nat}
def lstD : PyData → PyData
  | .tuple ds => .list ds
  | d => d
/-- a list of a step's things -/
def LstOf (H0 : Hp) (z D : Addr) (H : Hp) (y u : V) : Prop := ∃ l a vs, y = .ref l ∧ u = .ref a ∧ l ≠ z ∧ l ≠ D ∧ H0 a = some (.tup vs) ∧ H l = some (.lst vs)
theorem paired_snoc {α β : Type} {F : α → β → Prop} : ∀ {xs : List α} {ys : List β} {x : α} {y : β}, Paired F xs ys → F x y → Paired F (xs ++ [x]) (ys ++ [y])
  | _, _, _, _, .nil, h => .cons h .nil
  | _, _, _, _, .cons a r, h => .cons a (paired_snoc r h)
end
theorem Some45.mono {z : Addr} {H H' : Hp} {ts : List V} (h : Some45 z H ts) (c : Chg z H H') : Some45 z H' ts := fun v hv => by
  obtain ⟨d, hd⟩ := h v hv
  exact ⟨d, hd.mono c⟩
theorem Some45.app {z : Addr} {H : Hp} {ts us : List V} (h : Some45 z H ts) (h' : Some45 z H us) : Some45 z H (ts ++ us) := fun v hv => (List.mem_append.mp hv).elim (h v) (h' v)
abbrev backs : TE := tTupN (tCons (tTupN (tCons (tC (.str "back")) tNil)) tNil)
section
variable {K : PySem.W.Frag} {w : World} {pen L ra : Addr} {us : List V} {R : List PyData} {v : V} {x3 x4 : Option V} {d : PyData} {H0 : Hp} {Q : VK} {nx : L2.St → Hp → Prop}
end

/-! ### rows that are done: what they are -/
theorem Nices.one {d : PyData} (h : Nice d) : Nices [d] := ⟨h, trivial⟩
theorem DoneR.nice {ws : Str → Way} {dom : List Str} (hw : WsOk ws) {p : Part} {want : Str} {x : List PyData} (h : DoneR ws p want x) : p.inD dom → wanted want → Nices x := by
  induction h with
  | bld p want => exact fun hp hq => (Part.bld_nice hw hp).app (after_nice hq)
  | @op k a b want x y hk _ _ ih1 ih2 => exact fun hp hq => (((ih1 hp.1 (.inr (.inl rfl))).app (ih2 hp.2 (.inr (.inl rfl)))).app (.one (now_nice k))).app (pair_nice want)
  | @whn a b c want x y z _ _ _ ih1 ih2 ih3 => exact fun hp hq => (ih1 hp.1 (.inr (.inl rfl))).app (.one ⟨by show ∀ c ∈ _, _; decide +kernel, ih2 hp.2.1 hq, ih3 hp.2.2 hq, trivial⟩)
  | @one k a want x _ ih => exact fun hp hq => ((ih hp (.inr (.inr rfl))).app (.one (side_nice k))).app (after_nice hq)
  | @letp r a want x _ ih => exact fun hp hq => (opened_nice hw hp.2.2.1).app (ih hp.2.2.2 hq)
/-! ### done rows with their end: all steps are tuples; what is told of them -/
def isStep (d : PyData) : Prop := ∃ ds, d = .tuple ds
mutual
theorem Part.bld_steps {ws : Str → Way} {dom : List Str} : ∀ {p : Part}, p.inD dom → ∀ d ∈ p.bld ws, isStep d
  | .num n, _, d, h => ⟨_, List.mem_singleton.mp h⟩
  | .name x, _, d, h => ⟨_, List.mem_singleton.mp h⟩
  | .fn f, _, d, h => ⟨_, List.mem_singleton.mp h⟩
  | .one k a, hp, d, h => by
    rcases List.mem_append.mp h with h | h
    · exact Part.bld_steps (p := a) hp d h
    · exact ⟨_, List.mem_singleton.mp h⟩
  | .two k a b, hp, d, h => by
    rcases List.mem_append.mp h with h | h
    · rcases List.mem_append.mp h with h | h
      · exact Part.bld_steps (p := a) hp.1 d h
      · exact Part.bld_steps (p := b) hp.2 d h
    · exact ⟨_, List.mem_singleton.mp h⟩
  | .whn a b c, hp, d, h => by
    rcases List.mem_append.mp h with h | h
    · rcases List.mem_append.mp h with h | h
      · rcases List.mem_append.mp h with h | h
        · exact Part.bld_steps (p := a) hp.1 d h
        · exact Part.bld_steps (p := b) hp.2.1 d h
      · exact Part.bld_steps (p := c) hp.2.2 d h
    · exact ⟨_, List.mem_singleton.mp h⟩
  | .letp r a, hp, d, h => by
    rcases List.mem_append.mp (show d ∈ r.opened ws ++ a.bld ws from h) with h | h
    · rcases List.mem_cons.mp h with rfl | h
      · exact ⟨_, rfl⟩
      · exact Rows.opn_steps (r := r) hp.2.2.1 d h
    · exact Part.bld_steps (p := a) hp.2.2.2 d h
  | .shut a, hp, _, _ => hp.elim
theorem Rows.opn_steps {ws : Str → Way} {dom : List Str} : ∀ {r : Rows}, r.inD dom → ∀ d ∈ r.opn ws, isStep d
  | .nil, _, d, h => by cases h
  | .cons x a r, hp, d, h => by
    rcases List.mem_append.mp h with h | h
    · exact Part.bld_steps (p := a) hp.2.1 d h
    · rcases List.mem_cons.mp h with rfl | h
      · exact ⟨_, rfl⟩
      · exact Rows.opn_steps (r := r) hp.2.2 d h
end
theorem after_steps (want : Str) : ∀ d ∈ afterD want, isStep d := by
  unfold afterD
  split
  · intro d h; cases h
  · intro d h; exact ⟨_, List.mem_singleton.mp h⟩
theorem pair_steps (want : Str) : ∀ d ∈ pairD want, isStep d := by
  unfold pairD
  split
  · intro d h; exact ⟨_, List.mem_singleton.mp h⟩
  · intro d h; cases h
theorem steps_app {a b : List PyData} (ha : ∀ d ∈ a, isStep d) (hb : ∀ d ∈ b, isStep d) : ∀ d ∈ a ++ b, isStep d := fun d h => (List.mem_append.mp h).elim (ha d) (hb d)
theorem steps_one {d : PyData} (h : isStep d) : ∀ e ∈ [d], isStep e := fun e he => by rw [List.mem_singleton.mp he]; exact h
theorem DoneR.steps {ws : Str → Way} {dom : List Str} {p : Part} {want : Str} {x : List PyData} (h : DoneR ws p want x) : p.inD dom → ∀ d ∈ x, isStep d := by
  induction h with
  | bld p want => exact fun hp => steps_app (Part.bld_steps hp) (after_steps want)
  | @op k a b want x y hk _ _ ih1 ih2 => exact fun hp => steps_app (steps_app (steps_app (ih1 hp.1) (ih2 hp.2)) (steps_one ⟨_, rfl⟩)) (pair_steps want)
  | @whn a b c want x y z _ _ _ ih1 ih2 ih3 => exact fun hp => steps_app (ih1 hp.1) (steps_one ⟨_, rfl⟩)
  | @one k a want x _ ih => exact fun hp => steps_app (steps_app (ih hp) (steps_one ⟨_, rfl⟩)) (after_steps want)
  | @letp r a want x _ ih => exact fun hp => steps_app (fun d h => by
      rcases List.mem_cons.mp h with rfl | h
      · exact ⟨_, rfl⟩
      · exact Rows.opn_steps (r := r) hp.2.2.1 d h) (ih hp.2.2.2)
abbrev S60 : Nat := 10 ^ 60
theorem way_sm {ws : Str → Way} (hw : WsOk ws) (x : Str) : (((ws x).2 : Nat) : Int).natAbs < S60 := by
  rw [Int.natAbs_natCast]
  exact Nat.lt_of_le_of_lt (hw x).2 (by decide)
theorem opened_smA {ws : Str → Way} (hw : WsOk ws) {r : Rows} (hl : r.names.length ≤ 4) (h : Sms S60 (r.opn ws)) : Sms S60 (r.opened ws) :=
  ⟨⟨trivial, way_sm hw _, by show (((r.names.length : Nat) : Int)).natAbs < S60; rw [Int.natAbs_natCast]; exact Nat.lt_of_le_of_lt hl (by decide), trivial⟩, h⟩
mutual
theorem Part.bld_sm {ws : Str → Way} {dom : List Str} (hw : WsOk ws) : ∀ {p : Part}, p.inD dom → Sms S60 (p.bld ws)
  | .num n, h => ⟨⟨trivial, h, trivial⟩, trivial⟩
  | .name x, _ => ⟨⟨trivial, way_sm hw x, trivial⟩, trivial⟩
  | .fn f, h => ⟨⟨trivial, trivial, trivial⟩, trivial⟩
  | .one k a, h => (Part.bld_sm hw (p := a) h).app ⟨⟨trivial, trivial⟩, trivial⟩
  | .two k a b, h => ((Part.bld_sm hw (p := a) h.1).app (Part.bld_sm hw (p := b) h.2)).app ⟨⟨trivial, trivial⟩, trivial⟩
  | .whn a b c, h => (((Part.bld_sm hw (p := a) h.1).app (Part.bld_sm hw (p := b) h.2.1)).app (Part.bld_sm hw (p := c) h.2.2)).app ⟨⟨trivial, trivial⟩, trivial⟩
  | .letp r a, h => Sms.app (a := r.opened ws) (opened_smA hw h.1 (Rows.opn_sm hw (r := r) h.2.2.1)) (Part.bld_sm hw (p := a) h.2.2.2)
  | .shut a, h => h.elim
theorem Rows.opn_sm {ws : Str → Way} {dom : List Str} (hw : WsOk ws) : ∀ {r : Rows}, r.inD dom → Sms S60 (r.opn ws)
  | .nil, _ => trivial
  | .cons x a r, h => (Part.bld_sm hw (p := a) h.2.1).app ⟨⟨trivial, way_sm hw x, trivial⟩, Rows.opn_sm hw (r := r) h.2.2⟩
end
theorem after_sm (want : Str) : Sms S60 (afterD want) := by
  unfold afterD
  split
  · trivial
  · exact ⟨⟨trivial, trivial, trivial⟩, trivial⟩
theorem pair_sm (want : Str) : Sms S60 (pairD want) := by
  unfold pairD
  split
  · exact ⟨⟨trivial, trivial, trivial⟩, trivial⟩
  · trivial
theorem one_sm {d : PyData} (h : Sm S60 d) : Sms S60 [d] := ⟨h, trivial⟩
theorem DoneR.sm {ws : Str → Way} {dom : List Str} (hw : WsOk ws) {p : Part} {want : Str} {x : List PyData} (h : DoneR ws p want x) : p.inD dom → Sms S60 x := by
  induction h with
  | bld p want => exact fun hp => (Part.bld_sm hw hp).app (after_sm want)
  | @op k a b want x y hk _ _ ih1 ih2 => exact fun hp => (((ih1 hp.1).app (ih2 hp.2)).app (one_sm (d := nowD k.word) ⟨trivial, trivial, trivial⟩)).app (pair_sm want)
  | @whn a b c want x y z _ _ _ ih1 ih2 ih3 => exact fun hp => (ih1 hp.1).app ⟨⟨trivial, ih2 hp.2.1, ih3 hp.2.2, trivial⟩, trivial⟩
  | @one k a want x _ ih => exact fun hp => ((ih hp).app (one_sm (d := sideD k.word) ⟨trivial, trivial, trivial⟩)).app (after_sm want)
  | @letp r a want x _ ih => exact fun hp => (opened_smA hw hp.1 (Rows.opn_sm hw (r := r) hp.2.2.1)).app (ih hp.2.2.2)
/-- the rows of a function, done in some way, with their end -/
structure GoodR (P : Prog) (f : Str) (R : List PyData) : Prop where
  ex : ∃ j p ts x, FnAt P f j p ts ∧ DoneR (waysOf ts p) p "" x ∧ R = x ++ [backD]
section
variable {P : Prog} {f : Str} {R : List PyData}
theorem GoodR.show (h : GoodR P f R) : ShowAll 25 5000 R := by
  obtain ⟨j, p, ts, x, hA, hx, rfl⟩ := h.ex
  have h1 := hx.show hA.wsok hA.inD (.inl rfl)
  have h2 : ShowAll 25 15 [backD] := (ShowAll.of (all_one back_show)).mono (by omega) (by simp)
  have := hA.deep
  have := hA.fine.size
  exact (ShowAll.app (h1.mono (D' := 25) (by omega) (Nat.le_refl _)) h2).mono (Nat.le_refl _) (by omega)
theorem GoodR.nice (h : GoodR P f R) : Nices R := by
  obtain ⟨j, p, ts, x, hA, hx, rfl⟩ := h.ex
  exact (hx.nice hA.wsok hA.inD (.inl rfl)).app (.one back_nice)
theorem GoodR.sm (h : GoodR P f R) : Sms S60 R := by
  obtain ⟨j, p, ts, x, hA, hx, rfl⟩ := h.ex
  exact (hx.sm hA.wsok hA.inD).app ⟨⟨trivial, trivial⟩, trivial⟩
theorem GoodR.steps (h : GoodR P f R) : ∀ d ∈ R, ∃ ds, d = .tuple ds := by
  obtain ⟨j, p, ts, x, hA, hx, rfl⟩ := h.ex
  exact steps_app (hx.steps hA.inD) (steps_one ⟨_, rfl⟩)
theorem GoodR.len (h : GoodR P f R) : R.length ≤ 400 := by
  obtain ⟨j, p, ts, x, hA, hx, rfl⟩ := h.ex
  have h1 := hx.len
  have := hA.fine.size
  rw [List.length_append, List.length_singleton]
  omega
theorem GoodR.its (h : GoodR P f R) {pen L : Addr} {H : Hp} {us : List V} (hP : PenAt H pen L) (t : Tps H us R) : Its pen S60 H 25 5000 us R :=
  ⟨t.djs (fun xs e => (hP.neT e) rfl), h.nice, h.sm, h.show⟩
end

/-! ### a thing in a step: another one -/
theorem Its.len {z : Addr} {B : Nat} {H : Hp} {D N : Nat} {vs : List V} {ds : List PyData} (h : Its z B H D N vs ds) : vs.length ≤ N := by
  have h1 := h.dj.length
  have h2 := h.sh.bk
  have h3 : ∀ l : List PyData, l.length ≤ PyData.bulkAll l := by
    intro l
    induction l with
    | nil => exact Nat.zero_le _
    | cons d l ih => rw [PyData.bulkAll, List.length_cons]; omega
  have := h3 ds
  omega
theorem bulk_app : ∀ a b : List PyData, PyData.bulkAll (a ++ b) = PyData.bulkAll a + PyData.bulkAll b
  | [], b => by rw [List.nil_append, PyData.bulkAll, Nat.zero_add]
  | d :: a, b => by rw [List.cons_append, PyData.bulkAll, PyData.bulkAll, bulk_app a b]; omega
/-- ahead of a place, what is there, behind it -/
theorem Its.split {z : Addr} {B : Nat} {H : Hp} {D N i : Nat} {vs : List V} {ds : List PyData} {v : V} (h : Its z B H D N vs ds) (e : vs[i]? = some v) : ∃ d n1 n0 n2, Its z B H D n1 (vs.take i) (ds.take i) ∧ Itm z B H D n0 v d ∧ Its z B H D n2 (vs.drop (i + 1)) (ds.drop (i + 1)) ∧ n1 + (n0 + 1) + n2 ≤ N := by
  obtain ⟨d, hd, t⟩ := h.at e
  have h1 := h.take i
  have h2 := h.drop (i + 1)
  refine ⟨d, PyData.bulkAll (ds.take i), d.bulk, PyData.bulkAll (ds.drop (i + 1)), ⟨h1.dj, h1.ni, h1.sm, h1.sh.sh, h1.sh.nd, h1.sh.sl, h1.sh.cl, h1.sh.dp, Nat.le_refl _⟩, ⟨t.dj, t.ni, t.sm, t.sh.sh, t.sh.nd, t.sh.sl, t.sh.cl, t.sh.dp, Nat.le_refl _⟩, ⟨h2.dj, h2.ni, h2.sm, h2.sh.sh, h2.sh.nd, h2.sh.sl, h2.sh.cl, h2.sh.dp, Nat.le_refl _⟩, ?_⟩
  have hb := h.sh.bk
  have hsp : ds = ds.take i ++ d :: ds.drop (i + 1) := by
    have h3 := (List.take_append_drop i ds).symm
    have hi : i < ds.length := (List.getElem?_eq_some_iff.mp hd).1
    rw [List.drop_eq_getElem_cons hi, (List.getElem?_eq_some_iff.mp hd).2] at h3
    exact h3
  rw [hsp, bulk_app, PyData.bulkAll] at hb
  omega
theorem Its.outer {z : Addr} {B : Nat} {H : Hp} {D N i j : Nat} {vs : List V} {ds : List PyData} (h : Its z B H D N vs ds) (hij : i ≤ j) : ∃ n1 n2, Its z B H D n1 (vs.take i) (ds.take i) ∧ Its z B H D n2 (vs.drop j) (ds.drop j) ∧ n1 + n2 ≤ N := by
  have h1 := h.take i
  have h2 := h.drop j
  refine ⟨PyData.bulkAll (ds.take i), PyData.bulkAll (ds.drop j), ⟨h1.dj, h1.ni, h1.sm, h1.sh.sh, h1.sh.nd, h1.sh.sl, h1.sh.cl, h1.sh.dp, Nat.le_refl _⟩, ⟨h2.dj, h2.ni, h2.sm, h2.sh.sh, h2.sh.nd, h2.sh.sl, h2.sh.cl, h2.sh.dp, Nat.le_refl _⟩, ?_⟩
  have hb := h.sh.bk
  have h3 := (List.take_append_drop i ds).symm
  have h4 : ds.drop i = (ds.drop i).take (j - i) ++ ds.drop j := by
    have := (List.take_append_drop (j - i) (ds.drop i)).symm
    rwa [List.drop_drop, show i + (j - i) = j from by omega] at this
  rw [h3, h4, bulk_app, bulk_app] at hb
  omega
section
variable {pen L : Addr} {B B' : Nat} {H H' : Hp} {D N : Nat} {v : V} {d : PyData} {vs : List V} {ds : List PyData}
theorem Itm.more (h : Itm pen B H D N v d) (hb : B ≤ B') : Itm pen B' H D N v d := ⟨h.dj, h.ni, h.sm.up hb, h.sh⟩
theorem Its.more (h : Its pen B H D N vs ds) (hb : B ≤ B') : Its pen B' H D N vs ds := ⟨h.dj, h.ni, h.sm.up hb, h.sh⟩
theorem Itm.deep1 (h : Itm pen B H D N v (.tuple ds)) : ∃ D', D = D' + 1 := by
  have := h.sh.dp
  rw [PyData.depth] at this
  exact ⟨D - 1, by omega⟩
end
theorem cutV_upto (xs : List V) (k : Nat) : cutV xs none (some (k : Int)) = xs.take k := by
  unfold cutV
  rw [HT.sIx_none, HT.sIx_nat, Nat.sub_zero, List.drop_zero]
  by_cases h : k ≤ xs.length
  · rw [Nat.min_eq_left h]
  · rw [Nat.min_eq_right (by omega), List.take_of_length_le (Nat.le_refl _), List.take_of_length_le (by omega)]
theorem cutV_ahead (xs : List V) (k : Nat) : cutV xs (some (k : Int)) none = xs.drop k := by
  unfold cutV
  rw [HT.sIx_none, HT.sIx_nat]
  by_cases h : k ≤ xs.length
  · rw [Nat.min_eq_left h, List.take_of_length_le (by rw [List.length_drop]; omega)]
  · rw [Nat.min_eq_right (by omega), List.drop_of_length_le (Nat.le_refl _), List.drop_of_length_le (by omega)]
    simp
def spOther : Sp := fun vs H Q _ => ∃ (pen L : Addr) (t : V) (d : PyData) (B D N : Nat), vs = [.ref pen, t] ∧ PenAt H pen L ∧ Itm pen B H D N t d ∧ 100 ≤ B ∧ B + 4 ≤ 10 ^ 62 ∧ N ≤ 200000 ∧
  ∀ (v' : V) (d' : PyData) (H' : Hp), Itm pen (B + 4) H' D (2 * N + 10) v' d' → PenAt H' pen L → Chg pen H H' → Q v' H'
theorem others_low : ∀ y ∈ Txt.split ("number pair plus less times below left right do any" : Str) (" " : Str), (∀ c ∈ y.cps.toList, 97 ≤ c ∧ c ≤ 122) ∧ y.length ≤ 10 := by decide +kernel
theorem others_len : (Txt.split ("number pair plus less times below left right do any" : Str) (" " : Str)).length = 10 := by decide +kernel
theorem pure_other {K : PySem.W.Frag} {w : World} : PureOk 2 spOther (t_law_other K w spDraw) 2 := by
  refine ⟨fun vs H Q E ⟨_, _, _, _, _, _, _, e, _⟩ => by rw [e]; rfl, ?_⟩
  rintro vs H Q E ⟨pen, L, t, d, B, D, N, rfl, hP, ht, hB, hB2, hN, q⟩
  show t_law_other K w _ _ [some (.ref pen), some t] H
  unfold t_law_other
  have hadd : ∀ (i : Int), i.natAbs < B → ∀ k : Int, k = 1 ∨ k = -1 ∨ k = 2 ∨ k = 3 → ∀ H', Itm pen (B + 4) H' D (2 * N + 10) (.int (i + k)) (.int (i + k)) := fun i hi k hk H' =>
    .int (Nat.lt_of_lt_of_le (show _ < B + 4 by omega) hB2) (by omega)
  have pick4 : ∀ {l : Addr} {H1 H2 : Hp} {R : VK}, H2 l = some (.lst [V.int 1, V.int (-1), V.int 2, V.int 3]) → ∀ y : Int, 0 ≤ y → y < 4 → (∀ k : Int, k = 1 ∨ k = -1 ∨ k = 2 ∨ k = 3 → R (.int k) H2) → rIxG K w (.ref l) (.int y) H2 R := fun e y y0 y1 q => by
    have : y = 0 ∨ y = 1 ∨ y = 2 ∨ y = 3 := by omega
    rcases this with rfl | rfl | rfl | rfl
    · exact g_ixL (.of e) rfl (q 1 (.inl rfl))
    · exact g_ixL (.of e) rfl (q (-1) (.inr (.inl rfl)))
    · exact g_ixL (.of e) rfl (q 2 (.inr (.inr (.inl rfl))))
    · exact g_ixL (.of e) rfl (q 3 (.inr (.inr (.inr rfl))))
  have hi := ht
  obtain ⟨hdj, hni, hsm, hsh⟩ := hi
  walk_at "gg"
  refine g_isi hdj.jq.ty (kit_int hdj.jq) ?_
  walk_at "gg"
  have asInt : ∀ {D0 : Ends} {x : V} {i : Int}, (∀ k : Int, ∀ R : VK, ∀ H', R (.int (i + k)) H' → rAddB K x (.int k) H' R) → i.natAbs < B → D0.rt = Q →
      tRet (tOp (rAddB K) (tVar 1) (tIxG K w (tLstN (tCons (tC (.int 1)) (tCons (tUn (rU fun i => .int (-i)) (tC (.int 1))) (tCons (tC (.int 2)) (tCons (tC (.int 3)) tNil))))) (tCall spDraw [] E0 (tCons (tVar 0) (tCons (tC (.int 4)) tNil))))) D0 [some (.ref pen), some x] H := fun {D0 x i} hx hi eD => by
    walk_at "gg"
    rename_i l1 H1 n1 e1 s1
    refine g_draw (hP.same s1) (by decide) (by decide) fun y H2 y0 y1 hP2 c2 => ?_
    refine pick4 (H1 := H) (c2 _ _ (hP.ne n1).1.symm e1) y y0 y1 fun k hk => ?_
    refine hx k _ H2 ?_
    rw [eD]
    exact q _ _ H2 (hadd i hi k hk H2) hP2 ((Chg.same s1).trans c2)
  cases hdj with
  | int i =>
    refine g_T rfl ?_
    exact asInt (fun k R H' r => .inl (g_addI r)) hsm rfl
  | bl b =>
    refine g_T rfl ?_
    exact asInt (i := if b = true then 1 else 0) (fun k R H' r => .inr ⟨b, k, rfl, rfl, r⟩) (by split <;> simp <;> omega) rfl
  | non =>
    refine g_F rfl ?_
    walk_at "gg"
    refine g_isi .non (r := false) (by decide +kernel) ?_
    walk_at "gg"
    refine g_isi .non (r := false) (by decide +kernel) ?_
    walk_at "gg"
    exact q _ _ H (.int (i := 0) (by decide) (by show 0 < B + 4; omega)) hP .refl
  | str x =>
    refine g_F rfl ?_
    walk_at "gg"
    refine g_isi (.str _) (r := true) (by decide +kernel) ?_
    refine g_trubl (g_T rfl ?_)
    refine g_ret ?_
    refine g_ixop (g_m1 ?_)
    walk_at "gg"
    refine ⟨_, _, rfl, rfl, by decide +kernel, by decide +kernel, fun l1 H1 n1 e1 s1 => ?_⟩
    walk_at "gg"
    refine g_draw (hP.same s1) (by decide) (by decide) fun y H2 y0 y1 hP2 c2 => ?_
    obtain ⟨v, ea, hm, _⟩ := atI_in (xs := (Txt.split ("number pair plus less times below left right do any" : Str) (" " : Str)).map V.str) y0 (by rw [List.length_map, others_len]; exact y1)
    obtain ⟨z, hz, rfl⟩ := List.mem_map.mp hm
    obtain ⟨z1, z2⟩ := others_low z hz
    exact g_ixL (.of (c2 _ _ (hP.ne n1).1.symm e1)) ea (q _ _ H2 (.str z1 (by omega)) hP2 ((Chg.same s1).trans c2))
  | lst n e r =>
    refine g_F rfl ?_
    walk_at "gg"
    refine g_isi (.lst e) (r := false) (by decide +kernel) ?_
    walk_at "gg"
    refine g_isi (.lst e) (r := false) (by decide +kernel) ?_
    walk_at "gg"
    exact q _ _ H (.int (i := 0) (by decide) (by show 0 < B + 4; omega)) hP .refl
  | @tup a vs ds na ea r =>
    refine g_F rfl ?_
    walk_at "gg"
    refine g_isi (.tup ea) (r := false) (by decide +kernel) ?_
    walk_at "gg"
    refine g_isi (.tup ea) (r := true) (by decide +kernel) ?_
    refine g_trubl (g_F rfl ?_)
    refine g_next ?_
    with_reducible refine g_ret ?_
    obtain ⟨D1, rfl⟩ := ht.deep1
    obtain ⟨a', vs', e1, na', ea', hi⟩ := ht.untup1
    cases e1
    rw [ea] at ea'
    cases ea'
    have hl := hi.len
    have h1 : GvT pen L (B + 4) [some (.ref pen), some (.ref a)] H (tVar 1) D1 N N := gvT_var rfl na ea (hi.more (by omega)) hl
    have h2 : GvT pen L (B + 4) [some (.ref pen), some (.ref a)] H (tSl (rSlG K) (tVar 1) (tPart (tC (.int 1))) tNoPart) D1 N N := gvT_sl h1 (gvO_part gvN_c) gvO_no
    have h3 : GvT pen L (B + 4) [some (.ref pen), some (.ref a)] H (tSl (rSlG K) (tVar 1) tNoPart (tPart (tUn (rU fun i => .int (-i)) (tC (.int 1))))) D1 N N := gvT_sl h1 gvO_no (gvO_part gvN_neg)
    have h4 : GvT pen L (B + 4) [some (.ref pen), some (.ref a)] H (tSl (rSlG K) (tVar 1) tNoPart (tPart (tC (.int 1)))) D1 N N := gvT_sl h1 gvO_no (gvO_part gvN_c)
    refine gv_ix (gvS_cons (h2.gv.up (Nat.le_refl _) (by omega)) (gvS_cons (h3.gv.up (Nat.le_refl _) (by omega)) (gvS_cons ((gvT_add h1 h4 (by show _ ≤ 16777216; omega)).gv.up (Nat.le_refl _) (by omega)) (gvS_cons ((gv_tup (D := D1) gvA_nil).up (Nat.le_refl _) (Nat.zero_le _)) (gvS_cons ((gv_list h1).up (Nat.le_refl _) (by omega)) gvS_nil)))))
      (gvN_draw rfl (by decide) (by decide)) (by decide) (fun i h => h) _ _ .refl hP fun v d H' hv c' hP' => q v d H' hv hP' c'

/-! ### a step bent -/
def TruOf (u y : V) : Prop := y = u ∨ ∃ n b, u = .int n ∧ y = .bl b
theorem tru_its {z : Addr} {B : Nat} {H : Hp} {D : Nat} : ∀ {us ys : List V} {ds : List PyData} {N : Nat}, Paired TruOf us ys → Its z B H D N us ds → ∃ es, Its z B H D N ys es
  | _, _, _, _, .nil, h => ⟨_, h⟩
  | _, _, _, N, @Paired.cons _ _ _ u y _ _ hu t, h => by
    obtain ⟨hdj, hni, hsm, hsh⟩ := h
    cases hdj with
    | @cons _ _ d ds hd hr =>
      have hb := hsh.bk
      rw [PyData.bulkAll] at hb
      obtain ⟨h1, h2⟩ := hsh.uncons
      have h2' : ShowAll D (N - (d.bulk + 1)) ds := ⟨h2.sh, h2.nd, h2.sl, h2.cl, h2.dp, by omega⟩
      obtain ⟨es, he⟩ := tru_its t ⟨hr, hni.2, hsm.2, h2'⟩
      have h1' : Itm z B H D d.bulk u d := ⟨hd, hni.1, hsm.1, h1.sh, h1.nd, h1.sl, h1.cl, h1.dp, Nat.le_refl _⟩
      rcases hu with rfl | ⟨n, b, rfl, rfl⟩
      · exact ⟨_, (Its.cons h1' he).up (Nat.le_refl _) (by omega)⟩
      · exact ⟨_, (Its.cons (n := d.bulk) (Itm.bl (b := b)) he).up (Nat.le_refl _) (by omega)⟩
section
variable {K : PySem.W.Frag} {w : World} {pen L : Addr} {σ : L2.St} {H0 : Hp} {B D N : Nat} {sa : Addr} {us : List V} {ss : List PyData}
theorem g_inFlat {H : Hp} {Q : VK} {p : Addr} {x : V} {xs : List V} (h : H p = some (.tup xs)) (f : flatV x = true) (fs : xs.all flatV = true) (q : ∀ b, Q (.bl b) H) : rInG K w false x (.ref p) H Q := .inl ⟨p, xs, rfl, .inr (.of h), f, fs, q _⟩
theorem truths44 (h1 : σ[1]? = some (some (.ref sa))) (h5 : ∀ v, ((wipe σ [4]).set 4 (some v))[4]? = some (some v)) (h6 : ∀ v, wipe ((wipe σ [4]).set 4 (some v)) [4] = wipe σ [4]) (nsa : sa ≠ pen) (esa : H0 sa = some (.tup us)) (hi : Its pen B H0 D N us ss) (hl : us.length ≤ 200000) :
    Gv pen L B σ H0 (tCB (rTupleG K) (tCons (tLc (iSeq K (tVar 1)) (gName 4) tYes (tIf (tAnd (tTru K (tCB (rIsiG K) (tCons (tVar 4) (tCons (tC (.ty "int")) tNil)))) (tTest (tOp (rInG K w false) (tVar 4) (tTupN (tCons (tC (.int 0)) (tCons (tC (.int 1)) tNil)))))) (tCB rBool1 (tCons (tVar 4) tNil)) (tVar 4)) [4]) tNil)) (D + 1) N := by
  intro H Q c hP q
  have hi1 := hi.mono c
  have esa1 := c _ _ nsa esa
  refine g_cb (g_cons (g_lc (g_seqT (g_var h1 (g_isT (xs := us) (.of esa1) ?_)))))
  intro Dd hD
  refine lc_any us.length (fun i acc H' => acc.length = i ∧ Paired TruOf (us.take i) acc ∧ Same H H') hD (fun H' _ s => ⟨rfl, by simpa using Paired.nil, s⟩)
    (fun i acc H' hi ⟨_, _, s⟩ => ⟨_, _, .of (s _ _ esa1), List.getElem?_eq_getElem hi⟩) (fun acc H' ⟨_, _, s⟩ => ⟨_, .of (s _ _ esa1), Nat.le_refl _⟩) ?_ ?_
  · rintro i x acc H2 H3 hlt hla ⟨hal, hp, s⟩ hd ⟨rfl, hx⟩
    have hxi := hx _ (.of (s _ _ esa1))
    obtain ⟨d, hdi, hv⟩ := (hi1.same s).at hxi
    refine g_name rfl ⟨h6 _, g_yes (g_T rfl ?_)⟩
    have fin : ∀ {y : V} {H4 : Hp}, TruOf x y → Same H3 H4 → ∃ acc, H4 Dd = some (.lst acc) ∧ acc.length < sizeLine ∧ NxR (fun i acc H' => acc.length = i ∧ Paired TruOf (us.take i) acc ∧ Same H H') Dd (i + 1) (upd H4 Dd (.lst (acc ++ [y]))) := fun {y H4} hy s4 =>
      lc_step (s4 _ _ hd) hla (by show _ < 16777216; omega) fun H5 e5 c5 => by
        refine ⟨by rw [List.length_append, hal]; rfl, ?_, fun b o e => c5 b o (ne_of_none e hD) (s4 b o (s b o e))⟩
        rw [List.take_add_one, hxi, Option.toList_some]
        exact paired_snoc hp hy
    have v4 : ∀ {H' : Hp} {R : VK}, R x H' → tVar 4 ((wipe σ [4]).set 4 (some x)) H' R := fun r => g_var (h5 x) r
    refine g_ifx (g_and (g_tru (g_cb (g_cons (v4 (g_cons (g_c (g_nil ?_))))))))
    refine g_isi hv.dj.jq.ty (kit_int hv.dj.jq) ?_
    have other : isIntD d = false → ∀ {H' : Hp}, Same H3 H' → ∃ k, TruV K (.bl (isIntD d)) H' k ∧ if k = true then
        tTest (tOp (rInG K w false) (tVar 4) (tTupN (tCons (tC (.int 0)) (tCons (tC (.int 1)) tNil)))) ((wipe σ [4]).set 4 (some x)) H' fun c H1 =>
          if c = true then tCB rBool1 (tCons (tVar 4) tNil) ((wipe σ [4]).set 4 (some x)) H1 fun y H4 => ∃ acc, H4 Dd = some (.lst acc) ∧ acc.length < sizeLine ∧ NxR (fun i acc H' => acc.length = i ∧ Paired TruOf (us.take i) acc ∧ Same H H') Dd (i + 1) (upd H4 Dd (.lst (acc ++ [y])))
          else tVar 4 ((wipe σ [4]).set 4 (some x)) H1 fun y H4 => ∃ acc, H4 Dd = some (.lst acc) ∧ acc.length < sizeLine ∧ NxR (fun i acc H' => acc.length = i ∧ Paired TruOf (us.take i) acc ∧ Same H H') Dd (i + 1) (upd H4 Dd (.lst (acc ++ [y])))
        else if false = true then tCB rBool1 (tCons (tVar 4) tNil) ((wipe σ [4]).set 4 (some x)) H' fun y H4 => ∃ acc, H4 Dd = some (.lst acc) ∧ acc.length < sizeLine ∧ NxR (fun i acc H' => acc.length = i ∧ Paired TruOf (us.take i) acc ∧ Same H H') Dd (i + 1) (upd H4 Dd (.lst (acc ++ [y])))
          else tVar 4 ((wipe σ [4]).set 4 (some x)) H' fun y H4 => ∃ acc, H4 Dd = some (.lst acc) ∧ acc.length < sizeLine ∧ NxR (fun i acc H' => acc.length = i ∧ Paired TruOf (us.take i) acc ∧ Same H H') Dd (i + 1) (upd H4 Dd (.lst (acc ++ [y]))) := fun hf {H'} s' => by
      rw [hf]
      exact g_trubl (g_F rfl (g_F rfl (v4 (fin (.inl rfl) s'))))
    obtain ⟨hdj, _, _, _⟩ := hv
    cases hdj with
    | str x => exact other rfl (.refl _)
    | non => exact other rfl (.refl _)
    | lst n e r => exact other rfl (.refl _)
    | tup n e r => exact other rfl (.refl _)
    | int j =>
      refine g_trubl (g_T rfl (g_test (g_op (v4 (g_tup (g_cons (g_c (g_cons (g_c (g_nil ⟨(by show 2 ≤ 16777216; decide), fun p H4 n4 e4 s4 => ?_⟩))))))))))
      refine g_inFlat e4 rfl rfl fun b => g_bl (g_ite (fun _ => ?_) fun _ => ?_)
      · exact g_cb (g_cons (v4 (g_nil (.inl ⟨j, rfl, fin (.inr ⟨j, _, rfl, rfl⟩) s4⟩))))
      · exact v4 (fin (.inl rfl) s4)
    | bl j =>
      refine g_trubl (g_T rfl (g_test (g_op (v4 (g_tup (g_cons (g_c (g_cons (g_c (g_nil ⟨(by show 2 ≤ 16777216; decide), fun p H4 n4 e4 s4 => ?_⟩))))))))))
      refine g_inFlat e4 rfl rfl fun b => g_bl (g_ite (fun _ => ?_) fun _ => ?_)
      · exact g_cb (g_cons (v4 (g_nil (.inr ⟨j, rfl, fin (.inl rfl) s4⟩))))
      · exact v4 (fin (.inl rfl) s4)
  · rintro acc H2 hd ⟨hal, hp, s⟩
    rw [List.take_length] at hp
    refine g_nil (g_tupleL (.of hd) fun p H3 n3 e3 s3 => ?_)
    obtain ⟨es, he⟩ := tru_its hp (hi1.same s)
    exact q _ _ H3 (.tup ((hP.same s).ne n3).1.symm e3 (he.same s3)) ((Chg.same s).trans (.same s3)) ((hP.same s).same s3)
end
def spBentStep : Sp := fun vs H Q _ => ∃ (pen L sa : Addr) (us : List V) (ss : List PyData) (B D N : Nat), vs = [.ref pen, .ref sa] ∧ PenAt H pen L ∧ sa ≠ pen ∧ H sa = some (.tup us) ∧ Its pen B H D N us ss ∧ us ≠ [] ∧ 100 ≤ B ∧ B + 4 ≤ 10 ^ 62 ∧ N ≤ 200000 ∧
  ∀ (v' : V) (d' : PyData) (H' : Hp), Itm pen (B + 4) H' (D + 2) (4 * N + 60) v' d' → PenAt H' pen L → Chg pen H H' → Q v' H'
theorem low_words : ∀ x ∈ [("do" : Str), "number", "pair", "any", "back", "thing", "local", "room", "tie", "now", "plus", "side", "left", "give", "when", "turn", "fun", "a"], (∀ c ∈ x.cps.toList, 97 ≤ c ∧ c ≤ 122) ∧ x.length ≤ 6 := by decide +kernel
section
variable {K : PySem.W.Frag} {w : World} {pen L : Addr} {σ : L2.St} {H0 : Hp} {B D N : Nat} {sa : Addr} {us : List V} {ss : List PyData}
theorem gv_word {x : Str} (h : x ∈ [("do" : Str), "number", "pair", "any", "back", "thing", "local", "room", "tie", "now", "plus", "side", "left", "give", "when", "turn", "fun", "a"]) : Gv pen L B σ H0 (tC (.str x)) D 6 := gv_str (low_words x h).1 (low_words x h).2
theorem gv_last (h1 : σ[1]? = some (some (.ref sa))) (nsa : sa ≠ pen) (esa : H0 sa = some (.tup us)) (hi : Its pen B H0 D N us ss) (hne : us ≠ []) : Gv pen L B σ H0 (tIxG K w (tVar 1) (tUn (rU fun i => .int (-i)) (tC (.int 1)))) D N := by
  intro H Q c hP q
  refine g_ixop (g_var h1 ⟨1, rfl, ?_⟩)
  obtain ⟨n, hn⟩ : ∃ n, us.length = n + 1 := ⟨us.length - 1, by have := List.length_pos_iff.mpr hne; omega⟩
  have hat : us[n]? = some us[n] := List.getElem?_eq_getElem (by omega)
  obtain ⟨d, hd, hv⟩ := (hi.mono c).at hat
  exact g_ixT (.of (c _ _ nsa esa)) (at_last hn hat) (q _ _ H hv .refl hP)
/-- a thing at a place -/
theorem gv_at {k j : Nat} (h1 : σ[1]? = some (some (.ref sa))) (hk : σ[j]? = some (some (.int (k : Nat)))) (nsa : sa ≠ pen) (esa : H0 sa = some (.tup us)) (hi : Its pen B H0 D N us ss) (hlt : k < us.length) : Gv pen L B σ H0 (tIxG K w (tVar 1) (tVar j)) D N := by
  intro H Q c hP q
  refine g_ixop (g_var h1 (g_var hk ?_))
  have hat : us[k]? = some us[k] := List.getElem?_eq_getElem hlt
  obtain ⟨d, hd, hv⟩ := (hi.mono c).at hat
  exact g_ixT (.of (c _ _ nsa esa)) (atI_nat hat) (q _ _ H hv .refl hP)
theorem gv_other {te : TE} (hB : 100 ≤ B) (hB2 : B + 4 ≤ 10 ^ 62) (hN : N ≤ 200000) (h0 : σ[0]? = some (some (.ref pen))) (h : Gv pen L B σ H0 te D N) : Gv pen L (B + 4) σ H0 (tCall spOther [] E0 (tCons (tVar 0) (tCons te tNil))) D (2 * N + 10) := fun H Q c hP q =>
  g_call (g_cons (g_var h0 (g_cons (h H _ c hP fun v d H1 hv c1 hP1 => g_nil ⟨pen, L, v, d, B, D, N, rfl, hP1, hv, hB, hB2, hN, fun v' d' H2 hv' hP2 c2 => q v' d' H2 hv' (c1.trans c2) hP2⟩))))
abbrev steps1 : TA := (tCons (tTupN (tCons (tC (.str "do")) (tCons (tC (.str "number")) tNil))) (tCons (tTupN (tCons (tC (.str "do")) (tCons (tC (.str "pair")) tNil))) (tCons (tTupN (tCons (tC (.str "do")) (tCons (tC (.str "any")) tNil))) (tCons (tTupN (tCons (tC (.str "back")) tNil)) (tCons (tTupN (tCons (tC (.str "number")) (tCons (tC (.int 0)) tNil))) (tCons (tTupN (tCons (tC (.str "thing")) (tCons (tC (.int 0)) tNil))) (tCons (tTupN (tCons (tC (.str "local")) (tCons (tC (.int 0)) tNil))) tNil)))))))
abbrev steps2 : TA := (tCons (tTupN (tCons (tC (.str "room")) (tCons (tC (.int 0)) (tCons (tC (.int 1)) tNil)))) (tCons (tTupN (tCons (tC (.str "tie")) (tCons (tC (.int 0)) tNil))) (tCons (tTupN (tCons (tC (.str "now")) (tCons (tC (.str "plus")) tNil))) (tCons (tTupN (tCons (tC (.str "side")) (tCons (tC (.str "left")) tNil))) (tCons (tTupN (tCons (tC (.str "give")) tNil)) (tCons (tTupN (tCons (tC (.str "pair")) tNil)) (tCons (tTupN (tCons (tC (.str "when")) tNil)) tNil)))))))
abbrev steps3 : TA := (tCons (tTupN (tCons (tC (.str "turn")) (tCons (tTupN tNil) (tCons (tTupN tNil) tNil)))) (tCons (tC .non) (tCons (tC (.int 3)) (tCons (tC (.str "back")) (tCons (tTupN tNil) (tCons (tTupN (tCons (tC (.str "fun")) (tCons (tC (.str "a")) tNil))) (tCons (tTupN (tCons (tC (.str "left")) tNil)) tNil)))))))
theorem gvS_steps1 (hB : 100 ≤ B) : GvS pen L B σ H0 steps1 2 60 7 := by
  have t2 : ∀ {x y : Str}, x ∈ [("do" : Str), "number", "pair", "any", "back", "thing", "local", "room", "tie", "now", "plus", "side", "left", "give", "when", "turn", "fun", "a"] → y ∈ [("do" : Str), "number", "pair", "any", "back", "thing", "local", "room", "tie", "now", "plus", "side", "left", "give", "when", "turn", "fun", "a"] → Gv pen L B σ H0 (tTupN (tCons (tC (.str x)) (tCons (tC (.str y)) tNil))) 2 60 := fun hx hy => (gv_tup (gvA_cons (gv_word hx) (gvA_cons (gv_word hy) (gvA_nil (D := 1))))).up (by decide) (by decide)
  have t0 : ∀ {x : Str}, x ∈ [("do" : Str), "number", "pair", "any", "back", "thing", "local", "room", "tie", "now", "plus", "side", "left", "give", "when", "turn", "fun", "a"] → Gv pen L B σ H0 (tTupN (tCons (tC (.str x)) (tCons (tC (.int 0)) tNil))) 2 60 := fun hx => (gv_tup (gvA_cons (gv_word hx) (gvA_cons (gv_int (N := 0) (by decide) hB) (gvA_nil (D := 1))))).up (by decide) (by decide)
  have t1 : ∀ {x : Str}, x ∈ [("do" : Str), "number", "pair", "any", "back", "thing", "local", "room", "tie", "now", "plus", "side", "left", "give", "when", "turn", "fun", "a"] → Gv pen L B σ H0 (tTupN (tCons (tC (.str x)) tNil)) 2 60 := fun hx => (gv_tup (gvA_cons (gv_word hx) (gvA_nil (D := 1)))).up (by decide) (by decide)
  exact gvS_cons (t2 (by decide) (by decide)) (gvS_cons (t2 (by decide) (by decide)) (gvS_cons (t2 (by decide) (by decide)) (gvS_cons (t1 (by decide)) (gvS_cons (t0 (by decide)) (gvS_cons (t0 (by decide)) (gvS_cons (t0 (by decide)) gvS_nil))))))
theorem gvS_steps2 (hB : 100 ≤ B) : GvS pen L B σ H0 steps2 2 60 7 := by
  have t2 : ∀ {x y : Str}, x ∈ [("do" : Str), "number", "pair", "any", "back", "thing", "local", "room", "tie", "now", "plus", "side", "left", "give", "when", "turn", "fun", "a"] → y ∈ [("do" : Str), "number", "pair", "any", "back", "thing", "local", "room", "tie", "now", "plus", "side", "left", "give", "when", "turn", "fun", "a"] → Gv pen L B σ H0 (tTupN (tCons (tC (.str x)) (tCons (tC (.str y)) tNil))) 2 60 := fun hx hy => (gv_tup (gvA_cons (gv_word hx) (gvA_cons (gv_word hy) (gvA_nil (D := 1))))).up (by decide) (by decide)
  have t1 : ∀ {x : Str}, x ∈ [("do" : Str), "number", "pair", "any", "back", "thing", "local", "room", "tie", "now", "plus", "side", "left", "give", "when", "turn", "fun", "a"] → Gv pen L B σ H0 (tTupN (tCons (tC (.str x)) tNil)) 2 60 := fun hx => (gv_tup (gvA_cons (gv_word hx) (gvA_nil (D := 1)))).up (by decide) (by decide)
  exact gvS_cons ((gv_tup (gvA_cons (gv_word (by decide)) (gvA_cons (gv_int (N := 0) (by decide) hB) (gvA_cons (gv_int (N := 0) (by decide) hB) (gvA_nil (D := 1)))))).up (by decide) (by decide)) (gvS_cons ((gv_tup (gvA_cons (gv_word (by decide)) (gvA_cons (gv_int (N := 0) (by decide) hB) (gvA_nil (D := 1))))).up (by decide) (by decide))
    (gvS_cons (t2 (by decide) (by decide)) (gvS_cons (t2 (by decide) (by decide)) (gvS_cons (t1 (by decide)) (gvS_cons (t1 (by decide)) (gvS_cons (t1 (by decide)) gvS_nil))))))
theorem gvS_steps3 (hB : 100 ≤ B) : GvS pen L B σ H0 steps3 2 60 7 := by
  have e0 : Gv pen L B σ H0 (tTupN tNil) 1 0 := gv_tup gvA_nil
  exact gvS_cons ((gv_tup (gvA_cons (gv_word (by decide)) (gvA_cons e0 (gvA_cons e0 gvA_nil)))).up (by decide) (by decide)) (gvS_cons gv_non (gvS_cons (gv_int (by decide) hB) (gvS_cons ((gv_word (by decide)).up (Nat.le_refl _) (by decide)) (gvS_cons (e0.up (by decide) (by decide))
    (gvS_cons ((gv_tup (gvA_cons (gv_word (by decide)) (gvA_cons (gv_word (by decide)) (gvA_nil (D := 1))))).up (by decide) (by decide)) (gvS_cons ((gv_tup (gvA_cons (gv_word (by decide)) (gvA_nil (D := 1)))).up (by decide) (by decide)) gvS_nil))))))
end
theorem pure_bentstep {K : PySem.W.Frag} {w : World} : PureOk 2 spBentStep (t_law_bent_step K w spDraw spOther) 6 := by
  refine ⟨fun vs H Q E ⟨_, _, _, _, _, _, _, _, e, _⟩ => by rw [e]; rfl, ?_⟩
  rintro vs H Q E ⟨pen, L, sa, us, ss, B, D, N, rfl, hP, nsa, esa, hi, hne, hB, hB2, hN, q⟩
  show t_law_bent_step K w _ _ _ [some (.ref pen), some (.ref sa), none, none, none, none] H
  unfold t_law_bent_step
  have hul := hi.len
  have hpos := List.length_pos_iff.mpr hne
  walk_at "gg"
  refine g_draw hP (by decide) (by decide) fun way H1 w0 w1 hP1 c1 => ?_
  walk_at "gg"
  have esa1 := c1 _ _ nsa esa
  refine g_draw hP1 (by omega) (by rw [Int.natAbs_natCast]; exact Nat.lt_of_le_of_lt (Nat.le_trans hul hN) (by decide)) fun at' H2 a0 a1 hP2 c2 => ?_
  obtain ⟨k, rfl⟩ : ∃ k : Nat, at' = (k : Int) := ⟨at'.toNat, by omega⟩
  have hk : k < us.length := by omega
  have c02 := c1.trans c2
  have esa2 := c02 _ _ nsa esa
  have hi2 := (hi.mono c02).more (B' := B + 4) (by omega)
  have fin : ∀ {σ : L2.St} {te : TE} {D' N' : Nat}, Gv pen L (B + 4) σ H2 te D' N' → D' ≤ D + 2 → N' ≤ 4 * N + 60 → te σ H2 Q := fun h a b => (h.up a b) H2 _ .refl hP2 fun v d H' hv c hP => q v d H' hv hP (c02.trans c)
  clear hP1 esa1 c1 c2 hP esa
  have step : ∀ {σ : L2.St}, σ[1]? = some (some (.ref sa)) → GvT pen L (B + 4) σ H2 (tVar 1) D N N := fun h => gvT_var h nsa esa2 hi2 hul
  have d4 : ∀ {σ : L2.St}, σ[0]? = some (some (.ref pen)) → GvN pen L σ H2 (tCall spDraw [] E0 (tCons (tVar 0) (tCons (tC (.int 4)) tNil))) (fun i => 0 ≤ i ∧ i < 4) := fun h => gvN_draw h (by decide) (by decide)
  walk_at "gg"
  refine g_ite (fun _ => ?_) fun _ => ?_
  · with_reducible refine g_ret ?_
    exact fin (gv_list (step rfl)) (by omega) (by omega)
  walk_at "gg"
  refine g_ite (fun _ => ?_) fun _ => ?_
  · with_reducible refine g_ret ?_
    exact fin (gvT_sl (step rfl) gvO_no (gvO_part gvN_neg)).gv (by omega) (by omega)
  walk_at "gg"
  refine g_ite (fun _ => ?_) fun _ => ?_
  · with_reducible refine g_ret ?_
    refine fin (gvT_add (step rfl) (gvT_tup (gvA_cons (gv_ix (N := N + 6) (gvS_cons (gv_int (by decide) (by omega)) (gvS_cons ((gv_word (by decide)).up (Nat.le_refl _) (by omega)) (gvS_cons gv_non (gvS_cons ((gv_last rfl nsa esa2 hi2 hne).up (Nat.le_refl _) (by omega)) gvS_nil)))) (d4 rfl) (by decide) (fun i h => h)) gvA_nil) (by decide)) (by show _ ≤ 16777216; omega)).gv (by omega) (by omega)
  walk_at "gg"
  refine g_ite (fun _ => ?_) fun _ => ?_
  · with_reducible refine g_ret ?_
    exact fin (truths44 rfl (fun _ => rfl) (fun _ => rfl) nsa esa2 hi2 (by omega)) (by omega) (by omega)
  walk_at "gg"
  refine g_ite (fun _ => ?_) fun _ => ?_
  · with_reducible refine g_ret ?_
    have hat : Gv pen L B [some (.ref pen), some (.ref sa), some (.int way), some (.int (k : Nat)), none, none] H2 (tIxG K w (tVar 1) (tVar 3)) D N := gv_at rfl rfl nsa esa2 (hi.mono c02) hk
    have hmid := gvT_tup (gvA_cons (gv_other hB hB2 hN rfl hat) gvA_nil) (by decide)
    exact fin (gvT_add (gvT_add (gvT_sl (step rfl) gvO_no (gvO_part (gvN_var rfl))) hmid (by show _ ≤ 16777216; omega)) (gvT_sl (step rfl) (gvO_part (gvN_add (gvN_var rfl) gvN_c)) gvO_no) (by show _ ≤ 16777216; omega)).gv (by omega) (by omega)
  refine g_next ?_
  with_reducible refine g_seq (g_asg (g_lst ?_))
  refine gvS_steps1 (B := B + 4) (H0 := H2) (by omega) _ _ .refl hP2 fun vs1 H3 hS1 hl1 c3 hP3 => ⟨by rw [hl1]; decide, fun l1 H4 n4 e4 s4 => ?_⟩
  have nl1 : l1 ≠ pen := (hP3.ne n4).1.symm
  have hP4 := hP3.same s4
  refine g_name rfl ?_
  with_reducible refine g_seq (g_asg (g_op (g_var rfl (g_lst ?_))))
  refine gvS_steps2 (B := B + 4) (H0 := H4) (by omega) _ _ .refl hP4 fun vs2 H5 hS2 hl2 c5 hP5 => ⟨by rw [hl2]; decide, fun l2 H6 n6 e6 s6 => ?_⟩
  have c46 : Chg pen H4 H6 := c5.trans (.same s6)
  refine g_addL (c46 _ _ nl1 e4) e6 (by rw [hl1, hl2]; decide) fun l3 H7 n7 e7 s7 => ?_
  have nl3 : l3 ≠ pen := ((hP5.same s6).ne n7).1.symm
  have hP7 := (hP5.same s6).same s7
  refine g_name rfl ?_
  with_reducible refine g_seq (g_asg (g_op (g_var rfl (g_lst ?_))))
  refine gvS_steps3 (B := B + 4) (H0 := H7) (by omega) _ _ .refl hP7 fun vs3 H8 hS3 hl3 c8 hP8 => ⟨by rw [hl3]; decide, fun l4 H9 n9 e9 s9 => ?_⟩
  have c79 : Chg pen H7 H9 := c8.trans (.same s9)
  refine g_addL (c79 _ _ nl3 e7) e9 (by rw [List.length_append, hl1, hl2, hl3]; decide) fun l5 H10 n10 e10 s10 => ?_
  have nl5 : l5 ≠ pen := ((hP8.same s9).ne n10).1.symm
  have hP10 := (hP8.same s9).same s10
  have c210 : Chg pen H2 H10 := c3.trans ((Chg.same s4).trans (c46.trans ((Chg.same s7).trans (c79.trans (.same s10)))))
  have hlen : (vs1 ++ vs2 ++ vs3).length = 21 := by rw [List.length_append, List.length_append, hl1, hl2, hl3]
  have hall : ∀ v ∈ vs1 ++ vs2 ++ vs3, ∃ d, Itm pen (B + 4) H10 2 60 v d := by
    intro v hv
    rcases List.mem_append.mp hv with hv | hv
    · rcases List.mem_append.mp hv with hv | hv
      · obtain ⟨d, hd⟩ := hS1 v hv
        exact ⟨d, hd.mono ((Chg.same s4).trans (c46.trans ((Chg.same s7).trans (c79.trans (.same s10)))))⟩
      · obtain ⟨d, hd⟩ := hS2 v hv
        exact ⟨d, hd.mono ((Chg.same (s6.trans s7)).trans (c79.trans (.same s10)))⟩
    · obtain ⟨d, hd⟩ := hS3 v hv
      exact ⟨d, hd.mono (.same (s9.trans s10))⟩
  refine g_name rfl ?_
  walk_at "gg"
  rw [hlen]
  refine g_draw hP10 (by decide) (by decide) fun y H11 y0 y1 hP11 c11 => ?_
  obtain ⟨v, ea, hm, _⟩ := atI_in (xs := vs1 ++ vs2 ++ vs3) y0 (by rw [hlen]; exact y1)
  obtain ⟨d, hd⟩ := hall v hm
  exact g_ixL (.of (c11 _ _ nl5 e10)) ea (q v d H11 ((hd.mono c11).up (by omega) (by omega)) hP11 (c02.trans (c210.trans c11)))

/-! ### rows bent -/
section
variable (pen L : Addr) (B : Nat) (σ : L2.St) (H0 : Hp)
/-- expressions that tell tuples -/
def GvTs (ta : TA) (D N n : Nat) : Prop := ∀ (H : Hp) (Q : List V → Hp → Prop), Chg pen H0 H → PenAt H pen L → (∀ vs H', (∀ v ∈ vs, ∃ a us ds, v = .ref a ∧ a ≠ pen ∧ H' a = some (.tup us) ∧ Its pen B H' D N us ds) → vs.length = n → Chg pen H H' → PenAt H' pen L → Q vs H') → ta σ H Q
end
section
variable {K : PySem.W.Frag} {w : World} {pen L : Addr} {σ : L2.St} {H0 : Hp} {B D N n m k : Nat} {ra : Addr} {us : List V} {R : List PyData} {te : TE} {ta tr : TA} {P : Int → Prop}
theorem gvTs_nil : GvTs pen L B σ H0 tNil D N 0 := fun H Q c hP q => q [] H (fun v h => by cases h) rfl .refl hP
theorem gvTs_cons (h : GvT pen L B σ H0 te D N m) (t : GvTs pen L B σ H0 tr D N k) : GvTs pen L B σ H0 (tCons te tr) D N (k + 1) := fun H Q c hP q =>
  h H _ c hP fun a us ds H1 na ea hi _ c1 hP1 => t H1 _ (c.trans c1) hP1 fun vs H2 hvs hl c2 hP2 => q _ H2 (fun u hu => (List.mem_cons.mp hu).elim (fun e => ⟨a, us, ds, e, na, c2 _ _ na ea, hi.mono c2⟩) (hvs u)) (by rw [List.length_cons, hl]) (c1.trans c2) hP2
theorem gvT_ix (h : GvTs pen L B σ H0 ta D N n) (hi : GvN pen L σ H0 te P) (hn : n ≤ 1000) (hP : ∀ i, P i → 0 ≤ i ∧ i < (n : Int)) : GvT pen L B σ H0 (tIxG K w (tLstN ta) te) D N N := fun H Q c hP0 q =>
  g_ixop (g_lst (h H _ c hP0 fun vs H1 hv hl c1 hP1 => ⟨by rw [hl]; exact Nat.le_trans hn (by decide), fun p H2 n2 e2 s2 => hi H2 _ (c.trans (c1.trans (.same s2))) (hP1.same s2) fun i H3 pi c3 hP3 => by
    obtain ⟨lo, hi⟩ := hP i pi
    obtain ⟨v, ea, hm, _⟩ := atI_in lo (show i < vs.length by rw [hl]; exact hi)
    obtain ⟨a, us, ds, rfl, na, ea', hds⟩ := hv v hm
    have c23 : Chg pen H1 H3 := (Chg.same s2).trans c3
    exact g_ixL (.of (c3 _ _ (hP1.ne n2).1.symm e2)) ea (q a us ds H3 na (c23 _ _ na ea') (hds.mono c23) (hds.mono c23).len (c1.trans c23) hP3)⟩))
theorem GvT.few (h : GvT pen L B σ H0 te D N n) : GvT pen L B σ H0 te D N N := fun H Q c hP q => h H Q c hP fun a vs ds H' na ea hv _ c' hP' => q a vs ds H' na ea hv hv.len c' hP'
/-- what is ahead of a place, what is from a place on -/
theorem gvT_upto {j : Nat} {n1 : Nat} {ds : List PyData} (h1 : σ[1]? = some (some (.ref ra))) (hk : GvN pen L σ H0 te (· = (j : Int))) (nra : ra ≠ pen) (era : H0 ra = some (.tup us)) (hi : Its pen B H0 D n1 (us.take j) ds) : GvT pen L B σ H0 (tSl (rSlG K) (tVar 1) tNoPart (tPart te)) D n1 n1 := fun H Q c hP q =>
  g_sl (g_var h1 (g_nopart (g_part (hk H _ c hP fun i H1 hi1 c1 hP1 => g_ispart (by
    subst hi1
    refine g_slJ (c1 _ _ nra (c _ _ nra era)) fun p H2 e2 s2 => ?_
    rw [cutV_upto] at e2
    have hh := (hi.mono (c.trans c1)).same s2
    exact q p _ _ H2 ((hP1.same s2).neT e2) e2 hh hh.len (c1.trans (.same s2)) (hP1.same s2))))))
theorem gvT_ahead {j : Nat} {n1 : Nat} {ds : List PyData} (h1 : σ[1]? = some (some (.ref ra))) (hk : GvN pen L σ H0 te (· = (j : Int))) (nra : ra ≠ pen) (era : H0 ra = some (.tup us)) (hi : Its pen B H0 D n1 (us.drop j) ds) : GvT pen L B σ H0 (tSl (rSlG K) (tVar 1) (tPart te) tNoPart) D n1 n1 := fun H Q c hP q =>
  g_sl (g_var h1 (g_part (hk H _ c hP fun i H1 hi1 c1 hP1 => g_ispart (g_nopart (by
    subst hi1
    refine g_slJ (c1 _ _ nra (c _ _ nra era)) fun p H2 e2 s2 => ?_
    rw [cutV_ahead] at e2
    have hh := (hi.mono (c.trans c1)).same s2
    exact q p _ _ H2 ((hP1.same s2).neT e2) e2 hh hh.len (c1.trans (.same s2)) (hP1.same s2))))))
theorem gvN_next {A : TE} {j : Nat} (h : GvN pen L σ H0 A (· = (j : Int))) : GvN pen L σ H0 (tOp (rAddG K) A (tC (.int 1))) (· = ((j + 1 : Nat) : Int)) := fun H Q c hP q =>
  gvN_add h gvN_c H Q c hP fun i H' ⟨x, y, hx, hy, e⟩ c' hP' => q i H' (by rw [e, hx, hy]; rfl) c' hP'
/-- a thing once or not -/
theorem gvT_rep {j l : Nat} (h1 : σ[1]? = some (some (.ref ra))) (h7 : σ[7]? = some (some (.int (j : Nat)))) (h8 : σ[8]? = some (some (.int (l : Nat)))) (nra : ra ≠ pen) (era : H0 ra = some (.tup us)) (hi : Its pen B H0 D N us R) (hj : j < us.length) :
    GvT pen L B σ H0 (tOp (rRepB K) (tSl (rSlG K) (tVar 1) (tPart (tVar 7)) (tPart (tOp (rAddG K) (tVar 7) (tC (.int 1))))) (tCB rIntG (tCons (tOp rLtG (tVar 7) (tVar 8)) tNil))) D N N := by
  intro H Q c hP q
  refine g_op (g_sl (g_var h1 (g_part (g_var h7 (g_ispart (g_part (g_op (g_var h7 (g_c (g_addI (g_ispart ?_))))))))))) 
  refine g_slJ (c _ _ nra era) fun p H2 e2 s2 => ?_
  rw [show ((j : Nat) : Int) + 1 = ((j : Nat) : Int) + ((1 : Nat) : Int) from rfl, cut_at] at e2
  have hh := ((hi.mono c).same s2).drop j |>.take 1
  have hne : (us.drop j).take 1 ≠ [] := by
    intro e
    have := congrArg List.length e
    rw [List.length_take, List.length_drop, List.length_nil] at this
    omega
  refine g_cb (g_cons (g_op (g_var h7 (g_var h8 (g_ltI (g_nil (g_intB ?_)))))))
  by_cases hl : (j : Int) < (l : Int)
  · rw [decide_eq_true hl, if_pos rfl]
    exact ⟨p, _, rfl, .of e2, hne, .inl ⟨rfl, q p _ _ H2 ((hP.same s2).neT e2) e2 hh hh.len (.same s2) (hP.same s2)⟩⟩
  · rw [decide_eq_false hl, if_neg (by decide)]
    exact ⟨p, _, rfl, .of e2, hne, .inr ⟨rfl, fun p3 H3 n3 e3 s3 => q p3 [] [] H3 (((hP.same s2).same s3).neT e3) e3 (Its.nil) (Nat.zero_le _) (.same (s2.trans s3)) ((hP.same s2).same s3)⟩⟩
theorem gv_bentstep {n0 : Nat} {sa : Addr} {ss : List V} {sd : List PyData} (h0 : σ[0]? = some (some (.ref pen))) (h4 : σ[4]? = some (some (.ref sa))) (nsa : sa ≠ pen) (esa : H0 sa = some (.tup ss)) (hi : Its pen B H0 D n0 ss sd) (hne : ss ≠ []) (hB : 100 ≤ B) (hB2 : B + 4 ≤ 10 ^ 62) (hn : n0 ≤ 200000) :
    Gv pen L (B + 4) σ H0 (tCall spBentStep [] E0 (tCons (tVar 0) (tCons (tVar 4) tNil))) (D + 2) (4 * n0 + 60) := fun H Q c hP q =>
  g_call (g_cons (g_var h0 (g_cons (g_var h4 (g_nil ⟨pen, L, sa, ss, sd, B, D, n0, rfl, hP, nsa, c _ _ nsa esa, hi.mono c, hne, hB, hB2, hn, fun v' d' H2 hv' hP2 c2 => q v' d' H2 hv' c2 hP2⟩)))))
end
abbrev aheadE (K : PySem.W.Frag) (j : Nat) : TE := tSl (rSlG K) (tVar 1) tNoPart (tPart (tVar j))
abbrev behindE (K : PySem.W.Frag) (j : Nat) : TE := tSl (rSlG K) (tVar 1) (tPart (tOp (rAddG K) (tVar j) (tC (.int 1)))) tNoPart
abbrev dropE (K : PySem.W.Frag) : TE := tOp (rAddG K) (aheadE K 2) (behindE K 2)
def bent_rest (K : PySem.W.Frag) (w : World) : TS :=
  (tSeq (tAsg (tCall spDraw [] E0 (tCons (tVar 0) (tCons (tC (.int 8)) tNil))) (gName 6))
  (tSeq (tIfS (tTest (tOp (rEqG K) (tVar 6) (tC (.int 0)))) (tRet (dropE K)) tNext)
  (tSeq (tIfS (tTest (tOp (rEqG K) (tVar 6) (tC (.int 1)))) (tRet (tOp (rAddG K) (tSl (rSlG K) (tVar 1) tNoPart (tPart (tOp (rAddG K) (tVar 2) (tC (.int 1))))) (tSl (rSlG K) (tVar 1) (tPart (tVar 2)) tNoPart))) tNext)
  (tSeq (tIfS (tTest (tOp (rEqG K) (tVar 6) (tC (.int 2)))) (tSeq (tPar 7 8 (tCons (tCB rMin2 (tCons (tVar 2) (tCons (tVar 3) tNil))) (tCons (tCB rMax2 (tCons (tVar 2) (tCons (tVar 3) tNil))) tNil)))
  (tRet (tOp (rAddG K) (tOp (rAddG K) (tOp (rAddG K) (tOp (rAddG K) (aheadE K 7) (tSl (rSlG K) (tVar 1) (tPart (tVar 8)) (tPart (tOp (rAddG K) (tVar 8) (tC (.int 1)))))) (tSl (rSlG K) (tVar 1) (tPart (tOp (rAddG K) (tVar 7) (tC (.int 1)))) (tPart (tVar 8)))) (tOp (rRepB K) (tSl (rSlG K) (tVar 1) (tPart (tVar 7)) (tPart (tOp (rAddG K) (tVar 7) (tC (.int 1))))) (tCB rIntG (tCons (tOp rLtG (tVar 7) (tVar 8)) tNil)))) (behindE K 8)))) tNext)
  (tSeq (tIfS (tTest (tOp (rEqG K) (tVar 6) (tC (.int 3)))) (tRet (tIxG K w (tLstN (tCons (aheadE K 2) (tCons (tSl (rSlG K) (tVar 1) (tPart (tVar 2)) tNoPart) (tCons (tOp (rAddG K) (tVar 1) (tSl (rSlG K) (tVar 1) (tPart (tVar 2)) (tPart (tOp (rAddG K) (tVar 2) (tC (.int 1)))))) tNil)))) (tCall spDraw [] E0 (tCons (tVar 0) (tCons (tC (.int 3)) tNil))))) tNext)
  (tRet (tOp (rAddG K) (tOp (rAddG K) (aheadE K 2) (tTupN (tCons (tCall spBentStep [] E0 (tCons (tVar 0) (tCons (tVar 4) tNil))) tNil))) (behindE K 2))))))))
def BentQ (pen L : Addr) (B D N : Nat) (H : Hp) (Q : VK) : Prop := ∀ (a' : Addr) (us' : List V) (R' : List PyData) (H' : Hp), a' ≠ pen → H' a' = some (.tup us') → Its pen (B + 4) H' (D + 2) (4 * N + 60) us' R' → PenAt H' pen L → Chg pen H H' → Q (.ref a') H'
section
variable {K : PySem.W.Frag} {w : World} {pen L : Addr} {H0 : Hp} {B D N k k2 : Nat} {ra : Addr} {us : List V} {R : List PyData} {Q : VK} {nx : L2.St → Hp → Prop} {sa : Addr} {ss : List V} {sd : List PyData} {x5 : Option V}
theorem GvT.fin {te : TE} {σ : L2.St} {D' N' n' : Nat} {H : Hp} (h : GvT pen L (B + 4) σ H0 te D' N' n') (hD : D' ≤ D + 2) (hN : N' ≤ 4 * N + 60) (hP : PenAt H0 pen L) (c : Chg pen H H0) (q : BentQ pen L B D N H Q) : te σ H0 Q :=
  h H0 Q .refl hP fun a vs ds H' na ea hi _ c' hP' => q a vs ds H' na ea (hi.up hD hN) hP' (c.trans c')
theorem bent_drop {σ : L2.St} {ds : List PyData} (h1 : σ[1]? = some (some (.ref ra))) (h2 : σ[2]? = some (some (.int (k : Nat)))) (nra : ra ≠ pen) (era : H0 ra = some (.tup us)) (hi : Its pen (B + 4) H0 D N us R) (hN : N ≤ 200000) : GvT pen L (B + 4) σ H0 (dropE K) D (2 * N) (2 * N) :=
  ((gvT_add (gvT_upto h1 (gvN_var h2) nra era (hi.take k)) (gvT_ahead h1 (gvN_next (gvN_var h2)) nra era (hi.drop (k + 1))) (by show _ ≤ 16777216; omega)).up (Nat.le_refl _) (by omega)).few
theorem bent_rest_ok (hP : PenAt H0 pen L) (nra : ra ≠ pen) (era : H0 ra = some (.tup us)) (hi : Its pen B H0 D N us R) (hk : us[k]? = some (.ref sa)) (hk2 : k2 < us.length) (nsa : sa ≠ pen) (esa : H0 sa = some (.tup ss)) (hne : ss ≠ []) (hB : 100 ≤ B) (hB2 : B + 4 ≤ 10 ^ 62) (hN : N ≤ 40000) (q : BentQ pen L B D N H0 Q) :
    bent_rest K w { nx := nx, rt := Q } [some (.ref pen), some (.ref ra), some (.int (k : Nat)), some (.int (k2 : Nat)), some (.ref sa), x5, none, none, none] H0 := by
  unfold bent_rest
  have hlt : k < us.length := (List.getElem?_eq_some_iff.mp hk).1
  walk_at "gg"
  refine g_draw hP (by decide) (by decide) fun way H1 w0 w1 hP1 c1 => ?_
  have era1 := c1 _ _ nra era
  have esa1 := c1 _ _ nsa esa
  have hi0 := hi.mono c1
  have hi1 := hi0.more (B' := B + 4) (by omega)
  have hul := hi.len
  walk_at "gg"
  refine g_ite (fun _ => ?_) fun _ => ?_
  · with_reducible refine g_ret ?_
    exact (bent_drop (ds := []) rfl rfl nra era1 hi1 (by omega)).fin (by omega) (by omega) hP1 c1 q
  walk_at "gg"
  refine g_ite (fun _ => ?_) fun _ => ?_
  · with_reducible refine g_ret ?_
    exact (gvT_add (gvT_upto rfl (gvN_next (gvN_var rfl)) nra era1 (hi1.take (k + 1))) (gvT_ahead rfl (gvN_var rfl) nra era1 (hi1.drop k)) (by show _ ≤ 16777216; omega)).fin (by omega) (by omega) hP1 c1 q
  walk_at "gg"
  refine g_ite (fun _ => ?_) fun _ => ?_
  · walk_at "gg"
    refine ⟨_, _, rfl, ?_⟩
    obtain ⟨lo, hi', elo, ehi, hlh, hhi⟩ : ∃ lo hi' : Nat, min (k : Int) (k2 : Int) = (lo : Int) ∧ max (k : Int) (k2 : Int) = (hi' : Int) ∧ lo ≤ hi' ∧ hi' < us.length := by
      refine ⟨min k k2, max k k2, by omega, by omega, by omega, by omega⟩
    rw [elo, ehi]
    obtain ⟨n1, n2, i1, i2, hn⟩ := hi1.outer (show lo ≤ hi' + 1 by omega)
    with_reducible refine g_ret ?_
    have big : ∀ {x : Nat}, x ≤ 4 * N → x ≤ sizeLine := fun h => by show _ ≤ 16777216; omega
    have g1 := gvT_upto (K := K) (L := L) (σ := [some (.ref pen), some (.ref ra), some (.int (k : Nat)), some (.int (k2 : Nat)), some (.ref sa), x5, some (.int way), some (.int (lo : Nat)), some (.int (hi' : Nat))]) (te := tVar 7) rfl (gvN_var rfl) nra era1 i1
    have g2 := gvT_sl (K := K) (L := L) (σ := [some (.ref pen), some (.ref ra), some (.int (k : Nat)), some (.int (k2 : Nat)), some (.ref sa), x5, some (.int way), some (.int (lo : Nat)), some (.int (hi' : Nat))]) (te := tVar 1) (gvT_var rfl nra era1 hi1 hul) (gvO_part (gvN_var (j := 8) rfl)) (gvO_part (gvN_add (K := K) (gvN_var (j := 8) rfl) (gvN_c (i := 1))))
    have g3 := gvT_sl (K := K) (L := L) (σ := [some (.ref pen), some (.ref ra), some (.int (k : Nat)), some (.int (k2 : Nat)), some (.ref sa), x5, some (.int way), some (.int (lo : Nat)), some (.int (hi' : Nat))]) (te := tVar 1) (gvT_var rfl nra era1 hi1 hul) (gvO_part (gvN_add (K := K) (gvN_var (j := 7) rfl) (gvN_c (i := 1)))) (gvO_part (gvN_var (j := 8) rfl))
    have g4 := gvT_rep (K := K) (L := L) (σ := [some (.ref pen), some (.ref ra), some (.int (k : Nat)), some (.int (k2 : Nat)), some (.ref sa), x5, some (.int way), some (.int (lo : Nat)), some (.int (hi' : Nat))]) rfl rfl rfl nra era1 hi1 (show lo < us.length by omega)
    have g5 := gvT_ahead (K := K) (L := L) (σ := [some (.ref pen), some (.ref ra), some (.int (k : Nat)), some (.int (k2 : Nat)), some (.ref sa), x5, some (.int way), some (.int (lo : Nat)), some (.int (hi' : Nat))]) (te := tOp (rAddG K) (tVar 8) (tC (.int 1))) rfl (gvN_next (gvN_var rfl)) nra era1 i2
    exact (gvT_add (gvT_add (gvT_add (gvT_add g1 g2 (big (by omega))) g3 (big (by omega))) g4 (big (by omega))) g5 (big (by omega))).fin (by omega) (by omega) hP1 c1 q
  walk_at "gg"
  refine g_ite (fun _ => ?_) fun _ => ?_
  · with_reducible refine g_ret ?_
    have big : ∀ {x : Nat}, x ≤ 4 * N → x ≤ sizeLine := fun h => by show _ ≤ 16777216; omega
    have hv : GvT pen L (B + 4) [some (.ref pen), some (.ref ra), some (.int (k : Nat)), some (.int (k2 : Nat)), some (.ref sa), x5, some (.int way), none, none] H1 (tVar 1) D N N := gvT_var rfl nra era1 hi1 hul
    exact (gvT_ix (gvTs_cons ((gvT_upto rfl (gvN_var rfl) nra era1 (hi1.take k)).up (Nat.le_refl _) (by omega : N ≤ 2 * N)) (gvTs_cons ((gvT_ahead rfl (gvN_var rfl) nra era1 (hi1.drop k)).up (Nat.le_refl _) (by omega : N ≤ 2 * N))
      (gvTs_cons ((gvT_add hv (gvT_sl hv (gvO_part (gvN_var rfl)) (gvO_part (gvN_add (gvN_var rfl) gvN_c))) (big (by omega))).up (Nat.le_refl _) (by omega : N + N ≤ 2 * N)) gvTs_nil))) (gvN_draw rfl (by decide) (by decide)) (by decide) (fun i h => h)).fin (by omega) (by omega) hP1 c1 q
  refine g_next ?_
  with_reducible refine g_ret ?_
  obtain ⟨d, n1, n0, n2, i1, i0, i2, hn⟩ := hi0.split hk
  obtain ⟨hdj, hni, hsm, hsh⟩ := id i0
  cases hdj with
  | lst _ e _ => rw [esa1] at e; cases e
  | @tup _ _ sd' _ e hdr =>
    obtain ⟨D1, rfl⟩ := i0.deep1
    obtain ⟨a', vs', e1, na', ea', his⟩ := i0.untup1
    cases e1
    rw [esa1] at ea'
    cases ea'
    have big : ∀ {x : Nat}, x ≤ 8 * N + 100 → x ≤ sizeLine := fun h => by show _ ≤ 16777216; omega
    have g1 := (gvT_upto (K := K) (L := L) (σ := [some (.ref pen), some (.ref ra), some (.int (k : Nat)), some (.int (k2 : Nat)), some (.ref sa), x5, some (.int way), none, none]) (te := tVar 2) rfl (gvN_var rfl) nra era1 (i1.more (B' := B + 4) (by omega))).up (D' := D1 + 1 + 2) (by omega) (Nat.le_refl _)
    have g2 := (gvT_tup (gvA_cons (gv_bentstep (L := L) (σ := [some (.ref pen), some (.ref ra), some (.int (k : Nat)), some (.int (k2 : Nat)), some (.ref sa), x5, some (.int way), none, none]) rfl rfl nsa esa1 his hne hB hB2 (by omega)) gvA_nil) (by decide)).up (D' := D1 + 1 + 2) (by omega) (Nat.le_refl _)
    have g3 := (gvT_ahead (K := K) (L := L) (σ := [some (.ref pen), some (.ref ra), some (.int (k : Nat)), some (.int (k2 : Nat)), some (.ref sa), x5, some (.int way), none, none]) (te := tOp (rAddG K) (tVar 2) (tC (.int 1))) rfl (gvN_next (gvN_var rfl)) nra era1 (i2.more (B' := B + 4) (by omega))).up (D' := D1 + 1 + 2) (by omega) (Nat.le_refl _)
    exact (gvT_add (gvT_add g1 g2 (big (by omega))) g3 (big (by omega))).fin (by omega) (by omega) hP1 c1 q
end

def spBent (m : Nat) : Sp := fun vs H Q _ => ∃ (pen L ra : Addr) (us : List V) (R : List PyData) (B D N : Nat), vs = [.ref pen, .ref ra] ∧ PenAt H pen L ∧ ra ≠ pen ∧ H ra = some (.tup us) ∧ Its pen B H D N us R ∧ us ≠ [] ∧ D < 2 * m ∧ D ≤ 60 ∧ 100 ≤ B ∧ B + 4 ≤ 10 ^ 62 ∧ N ≤ 40000 ∧ BentQ pen L B D N H Q
theorem pure_bent {K : PySem.W.Frag} {w : World} {m : Nat} : PureOk 2 (spBent (m + 1)) (t_law_bent K w spDraw (spBent m) spBentStep) 9 := by
  refine ⟨fun vs H Q E ⟨_, _, _, _, _, _, _, _, e, _⟩ => by rw [e]; rfl, ?_⟩
  rintro vs H Q E ⟨pen, L, ra, us, R, B, D, N, rfl, hP, nra, era, hi, hne, hD, hD60, hB, hB2, hN, q⟩
  show t_law_bent K w _ _ _ _ [some (.ref pen), some (.ref ra), none, none, none, none, none, none, none] H
  unfold t_law_bent
  have hul := hi.len
  have hpos := List.length_pos_iff.mpr hne
  have hb250 : ((us.length : Nat) : Int).natAbs < 2 ^ 250 := by rw [Int.natAbs_natCast]; exact Nat.lt_of_le_of_lt (Nat.le_trans hul hN) (by decide)
  walk_at "gg"
  refine g_draw hP (by omega) hb250 fun a1 H1 lo1 hi1 hP1 c1 => ?_
  obtain ⟨k, rfl⟩ : ∃ k : Nat, a1 = (k : Int) := ⟨a1.toNat, by omega⟩
  have era1 := c1 _ _ nra era
  walk_at "gg"
  refine g_draw hP1 (by omega) hb250 fun a2 H2 lo2 hi2 hP2 c2 => ?_
  obtain ⟨k2, rfl⟩ : ∃ k2 : Nat, a2 = (k2 : Int) := ⟨a2.toNat, by omega⟩
  have c02 := c1.trans c2
  have era2 := c2 _ _ nra era1
  have hlt : k < us.length := by omega
  have hlt2 : k2 < us.length := by omega
  obtain ⟨v, hat⟩ : ∃ v, us[k]? = some v := ⟨_, List.getElem?_eq_getElem hlt⟩
  have hi0 := hi.mono c02
  have hi4 := hi0.more (B' := B + 4) (by omega)
  clear era era1 hP hP1 c1 c2 hb250 lo1 lo2 hi1 hi2
  refine g_name rfl ?_
  with_reducible refine g_seq (g_asg (g_ixop (g_var rfl (g_var rfl ?_))))
  refine g_ixT (.of era2) (atI_nat hat) ?_
  refine g_name rfl ?_
  obtain ⟨d, n1, n0, n2, i1, i0, i2, hn⟩ := hi0.split hat
  have droppedAt : ∀ {x4 : V} {H' : Hp}, Same H2 H' → dropE K [some (.ref pen), some (.ref ra), some (.int (k : Nat)), some (.int (k2 : Nat)), some x4, none, none, none, none] H' Q := fun {x4 H'} s =>
    (bent_drop (ds := []) rfl rfl nra (s _ _ era2) (hi4.same s) (by omega)).fin (by omega) (by omega) (hP2.same s) (c02.trans (.same s)) q
  have dropped : ∀ {x4 : V}, dropE K [some (.ref pen), some (.ref ra), some (.int (k : Nat)), some (.int (k2 : Nat)), some x4, none, none, none, none] H2 Q := droppedAt (.refl _)
  with_reducible refine g_seq (g_ifs (g_or (g_not (g_tru (g_cb (g_cons (g_var rfl (g_cons (g_c (g_nil ?_))))))))))
  refine g_isi i0.dj.jq.ty (kit_tuple i0.dj.jq) ?_
  obtain ⟨hdj, hni, hsm, hsh⟩ := id i0
  cases hdj with
  | str x => exact g_trubl (g_T rfl (g_T rfl dropped))
  | non => exact g_trubl (g_T rfl (g_T rfl dropped))
  | bl b => exact g_trubl (g_T rfl (g_T rfl dropped))
  | int i => exact g_trubl (g_T rfl (g_T rfl dropped))
  | lst n e r => exact g_trubl (g_T rfl (g_T rfl dropped))
  | @tup sa ss sd nsa esa hss =>
    refine g_trubl (g_F rfl (g_test (g_op (g_var rfl (g_tup (g_nil ⟨by decide, fun p3 H3 n3 e3 s3 => ?_⟩))))))
    refine g_eqT (s3 _ _ esa) e3 (g_bl ?_)
    cases hse : ss with
    | nil => exact g_T rfl (droppedAt s3)
    | cons u0 ss0 =>
    have hsne : ss ≠ [] := by rw [hse]; exact List.cons_ne_nil _ _
    have h0 : ss[0]? = some u0 := by rw [hse]; rfl
    clear hse
    obtain ⟨D1, rfl⟩ := i0.deep1
    obtain ⟨a', vs', e1, na', ea', his⟩ := i0.untup1
    cases e1
    rw [esa] at ea'
    cases ea'
    have hP3 := hP2.same s3
    have c03 := c02.trans (.same s3)
    have rest : ∀ {x5 : Option V} {H' : Hp}, Chg pen H2 H' → PenAt H' pen L → bent_rest K w { nx := fun _ H' => Q .non H', rt := Q } [some (.ref pen), some (.ref ra), some (.int (k : Nat)), some (.int (k2 : Nat)), some (.ref sa), x5, none, none, none] H' := fun {x5 H'} c hP' =>
      bent_rest_ok hP' nra (c _ _ nra era2) (hi0.mono c) hat hlt2 nsa (c _ _ nsa esa) hsne hB hB2 hN fun a' us' R' H'' na' ea' hi' hP'' c'' => q a' us' R' H'' na' ea' hi' hP'' ((c02.trans c).trans c'')
    refine g_F rfl (g_next ?_)
    obtain ⟨d0, hd0, ht0⟩ := (his.same s3).at h0
    with_reducible refine g_seq (g_ifs (g_and (g_test (g_op (g_ixop (g_var rfl (g_c ?_)))))))
    refine g_ixT (.of (s3 _ _ esa)) (atI_nat (j := 0) h0) (g_c ?_)
    refine g_eqD ht0.dj.dp (.str _) (ht0.sh.shaped (by omega)) (by decide +kernel) (g_bl ?_)
    refine g_ite (fun _ => ?_) fun _ => g_F rfl (g_next (rest (.same s3) hP3))
    with_reducible refine g_and (g_test (g_op (g_cb (g_cons (g_var rfl (g_nil ?_))))))
    refine g_lenT (.of (s3 _ _ esa)) (g_c (g_eqI (g_bl ?_)))
    refine g_ite (fun h3 => ?_) fun _ => g_F rfl (g_next (rest (.same s3) hP3))
    have h3 : ss.length = 3 := by
      have := of_decide_eq_true h3
      omega
    with_reducible refine g_test (g_op (g_call (g_cons (g_var rfl (g_cons (g_c (g_nil ?_)))))))
    refine g_draw hP3 (by decide) (by decide) fun a4 H4 lo4 hi4' hP4 c4 => ?_
    have c24 : Chg pen H2 H4 := (Chg.same s3).trans c4
    refine g_c (g_gtI (g_bl (g_ite (fun _ => ?_) fun _ => g_next (rest c24 hP4))))
    walk_at "gg"
    refine g_draw hP4 (by decide) (by decide) fun a5 H5 lo5 hi5 hP5 c5 => ?_
    have c25 : Chg pen H2 H5 := c24.trans c5
    obtain ⟨which, ew, hw⟩ : ∃ which : Nat, 1 + a5 = (which : Int) ∧ which < ss.length := ⟨(1 + a5).toNat, by omega, by omega⟩
    refine g_addI ?_
    rw [ew]
    refine g_name rfl ?_
    have esa5 := c25 _ _ nsa esa
    have his5 := his.mono c25
    obtain ⟨u, hu⟩ : ∃ u, ss[which]? = some u := ⟨_, List.getElem?_eq_getElem hw⟩
    obtain ⟨du, m1, m0, m2, j1, j0, j2, hm⟩ := his5.split hu
    have restn := fun {x5 : Option V} {H' : Hp} (c : Chg pen H5 H') (hP' : PenAt H' pen L) => rest (x5 := x5) (c25.trans c) hP'
    with_reducible refine g_ifs (g_and (g_tru (g_cb (g_cons (g_ixop (g_var rfl (g_var rfl ?_)))))))
    refine g_ixT (.of esa5) (atI_nat hu) (g_cons (g_c (g_nil ?_)))
    refine g_isi j0.dj.jq.ty (kit_tuple j0.dj.jq) ?_
    obtain ⟨hdj, hni, hsm, hsh⟩ := id j0
    cases hdj with
    | str x => exact g_trubl (g_F rfl (g_F rfl (g_next (restn .refl hP5))))
    | non => exact g_trubl (g_F rfl (g_F rfl (g_next (restn .refl hP5))))
    | bl b => exact g_trubl (g_F rfl (g_F rfl (g_next (restn .refl hP5))))
    | int i => exact g_trubl (g_F rfl (g_F rfl (g_next (restn .refl hP5))))
    | lst n e r => exact g_trubl (g_F rfl (g_F rfl (g_next (restn .refl hP5))))
    | @tup ta tt td nta eta htt =>
      refine g_trubl (g_T rfl ?_)
      with_reducible refine g_test (g_op (g_ixop (g_var rfl (g_var rfl ?_))))
      refine g_ixT (.of esa5) (atI_nat hu) (g_tup (g_nil ⟨by decide, fun p6 H6 n6 e6 s6 => ?_⟩))
      have c26 : Chg pen H2 H6 := c25.trans (.same s6)
      have hP6 := hP5.same s6
      refine g_neD (j0.same s6).dj.dp (.tup (.of e6) .nil) (j0.sh.shaped (by omega)) (by decide +kernel) (g_bl ?_)
      refine g_ite (fun hnn => ?_) fun _ => g_next (rest c26 hP6)
      obtain ⟨D2, rfl⟩ := j0.deep1
      obtain ⟨a', vs', e1, na', ea', its⟩ := j0.untup1
      cases e1
      rw [eta] at ea'
      cases ea'
      have htne : tt ≠ [] := by
        intro e
        rw [e] at htt
        cases htt
        exact absurd hnn (by decide +kernel)
      with_reducible refine g_ret ?_
      have c56 : Chg pen H5 H6 := .same s6
      have big : ∀ {x : Nat}, x ≤ 8 * N + 200 → x ≤ sizeLine := fun h => by show _ ≤ 16777216; omega
      have call : Gv pen L (B + 4) [some (.ref pen), some (.ref ra), some (.int (k : Nat)), some (.int (k2 : Nat)), some (.ref sa), some (.int (which : Nat)), none, none, none] H6 (tCall (spBent m) [] E0 (tCons (tVar 0) (tCons (tIxG K w (tVar 4) (tVar 5)) tNil))) (D2 + 2 + 1) (4 * m0 + 60) := fun H' Q' c hP' q' =>
        g_call (g_cons (g_var rfl (g_cons (g_ixop (g_var rfl (g_var rfl (g_ixT (.of ((c56.trans c) _ _ nsa esa5)) (atI_nat hu) (g_nil ⟨pen, L, ta, tt, td, B, D2, m0, rfl, hP', nta, (c56.trans c) _ _ nta eta, its.mono (c56.trans c), htne, by omega, by omega, hB, hB2, by omega,
          fun a' us' R' H'' na' ea' hi' hP'' c'' => q' _ _ H'' (.tup na' ea' hi') c'' hP''⟩))))))))
      have up4 : ∀ {te : TE} {j : Nat} {n1 : Nat} {ds : List PyData}, GvN pen L [some (.ref pen), some (.ref ra), some (.int (k : Nat)), some (.int (k2 : Nat)), some (.ref sa), some (.int (which : Nat)), none, none, none] H6 te (· = (j : Int)) → Its pen (B + 4) H6 (D2 + 1) n1 (ss.take j) ds → GvT pen L (B + 4) [some (.ref pen), some (.ref ra), some (.int (k : Nat)), some (.int (k2 : Nat)), some (.ref sa), some (.int (which : Nat)), none, none, none] H6 (tSl (rSlG K) (tVar 4) tNoPart (tPart te)) (D2 + 1 + 2) n1 n1 := fun {te j n1 ds} hk hi H' Q' c hP' q' =>
        g_sl (g_var rfl (g_nopart (g_part (hk H' _ c hP' fun i H1 hi1 c1 hP1 => g_ispart (by
          subst hi1
          refine g_slJ (c1 _ _ nsa (c _ _ nsa (c56 _ _ nsa esa5))) fun p H2 e2 s2 => ?_
          rw [cutV_upto] at e2
          have hh := (hi.mono (c.trans c1)).same s2
          exact q' p _ _ H2 ((hP1.same s2).neT e2) e2 (hh.up (by omega) (Nat.le_refl _)) hh.len (c1.trans (.same s2)) (hP1.same s2))))))
      have ah4 : ∀ {te : TE} {j : Nat} {n1 : Nat} {ds : List PyData}, GvN pen L [some (.ref pen), some (.ref ra), some (.int (k : Nat)), some (.int (k2 : Nat)), some (.ref sa), some (.int (which : Nat)), none, none, none] H6 te (· = (j : Int)) → Its pen (B + 4) H6 (D2 + 1) n1 (ss.drop j) ds → GvT pen L (B + 4) [some (.ref pen), some (.ref ra), some (.int (k : Nat)), some (.int (k2 : Nat)), some (.ref sa), some (.int (which : Nat)), none, none, none] H6 (tSl (rSlG K) (tVar 4) (tPart te) tNoPart) (D2 + 1 + 2) n1 n1 := fun {te j n1 ds} hk hi H' Q' c hP' q' =>
        g_sl (g_var rfl (g_part (hk H' _ c hP' fun i H1 hi1 c1 hP1 => g_ispart (g_nopart (by
          subst hi1
          refine g_slJ (c1 _ _ nsa (c _ _ nsa (c56 _ _ nsa esa5))) fun p H2 e2 s2 => ?_
          rw [cutV_ahead] at e2
          have hh := (hi.mono (c.trans c1)).same s2
          exact q' p _ _ H2 ((hP1.same s2).neT e2) e2 (hh.up (by omega) (Nat.le_refl _)) hh.len (c1.trans (.same s2)) (hP1.same s2))))))
      have inner := (gvT_add (K := K) (gvT_add (K := K) (up4 (te := tVar 5) (gvN_var rfl) ((j1.same s6).more (B' := B + 4) (by omega))) (gvT_tup (gvA_cons call gvA_nil) (by decide)) (big (by omega))) (ah4 (te := tOp (rAddG K) (tVar 5) (tC (.int 1))) (gvN_next (gvN_var rfl)) ((j2.same s6).more (B' := B + 4) (by omega))) (big (by omega))).gv
      have era6 := c26 _ _ nra era2
      have k1 := ((i1.mono c26).more (B' := B + 4) (by omega)).up (D' := D2 + 1 + 1 + 2) (by omega) (Nat.le_refl _)
      have k2' := ((i2.mono c26).more (B' := B + 4) (by omega)).up (D' := D2 + 1 + 1 + 2) (by omega) (Nat.le_refl _)
      have whole := gvT_add (K := K) (gvT_add (K := K) (gvT_upto (K := K) (te := tVar 2) rfl (gvN_var rfl) nra era6 k1) (gvT_tup (gvA_cons inner gvA_nil) (by decide)) (big (by omega))) (gvT_ahead (K := K) (te := tOp (rAddG K) (tVar 2) (tC (.int 1))) rfl (gvN_next (gvN_var rfl)) nra era6 k2') (big (by omega))
      exact whole.fin (by omega) (by omega) hP6 (c02.trans c26) q

/-! ### the law -/
theorem pure_law44 {K : PySem.W.Frag} {w : World} : PureOk 1 (spLaw K) (t_law K w (spPen K) spProgram spFunctions spDraw spLWays spLBodyOf (spDone 12) (spBuild 12) (spBent 14) (spSame K) spLLetBy spLetsBy) 11 := by
  refine ⟨fun vs H Q E ⟨_, _, e, _⟩ => by rw [e]; rfl, ?_⟩
  rintro vs H Q E ⟨a, ns, rfl, hS, hl, q⟩
  show t_law K w _ _ _ _ _ _ _ _ _ _ _ _ _ [some (.ref a), none, none, none, none, none, none, none, none, none, none] H
  unfold t_law
  walk_at "gg"
  refine ⟨a, ns, rfl, hS, hl, fun pen L H1 np nL hP1 s1 => ?_⟩
  walk_at "gg"
  refine ⟨pen, L, _, rfl, hP1, fun v P ps' H2 eP tP hfine hP2 c2 => ?_⟩
  walk_at "gg"
  refine ⟨v, P, rfl, tP, hfine, fun fl H3 nf ef s3 => ?_⟩
  have tP3 := tP.mono (Same.tk s3)
  have hP3 : PenAt H3 pen L := hP2.pe.same s3
  have hfl : fl ≠ pen := (hP2.pe.ne nf).1.symm
  have hfew := hfine.few
  have hfln : (allF P).length ≤ 9 ∧ 0 < (allF P).length := by
    unfold allF
    rw [List.length_append, List.length_singleton, show P.names.length = P.fs.length from List.length_map _]
    omega
  have hfml : ((allF P).map V.str).length = (allF P).length := List.length_map _
  have ef3 : H3 fl = some (.lst ((allF P).map V.str)) := ef
  clear tP hP2 nL nf ef hP1
  have hS3 : ∀ {H' : Hp}, Chg pen H3 H' → SqL K H' a (ns.map V.int) := fun c => sql_two hS s1 ((c2.trans (.same s3)).trans c) np
  clear s1 c2 s3
  have hb250 : (((allF P).length : Nat) : Int).natAbs < 2 ^ 250 := by
    rw [Int.natAbs_natCast]
    exact Nat.lt_of_le_of_lt hfln.1 (by decide)
  walk_at "gg"
  refine g_isrng (by decide) (by decide) ?_
  refine for_any 4 (fun i σ H' => ∃ (x4 x5 x6 x7 x8 x9 x10 : Option V), σ = [some (.ref a), some (.ref pen), some v, some (.ref fl), x4, x5, x6, x7, x8, x9, x10] ∧ PenAt H' pen L ∧ Chg pen H3 H')
    ⟨_, _, _, _, _, _, _, rfl, hP3, .refl⟩ (fun i σ H' hi _ => (by show (i : Nat) < _; omega)) (fun σ H' _ => (by show _ ≤ (4 : Nat); omega)) ?_ ?_
  · rintro turn x σ H31 H32 hturn ⟨x4, x5, x6, x7, x8, x9, x10, rfl, hP32, c32⟩ ⟨rfl, rfl⟩
    have ef32 := c32 _ _ hfl ef3
    have tP32 := tP3.mono (hP3.tk c32)
    have back : ∀ {σ : L2.St} {H' : Hp} {x4 x5 x6 x7 x8 x9 x10 : Option V}, σ = [some (.ref a), some (.ref pen), some v, some (.ref fl), x4, x5, x6, x7, x8, x9, x10] → PenAt H' pen L → Chg pen H32 H' → ∃ (x4 x5 x6 x7 x8 x9 x10 : Option V), σ = [some (.ref a), some (.ref pen), some v, some (.ref fl), x4, x5, x6, x7, x8, x9, x10] ∧ PenAt H' pen L ∧ Chg pen H3 H' :=
      fun e hP c => ⟨_, _, _, _, _, _, _, e, hP, c32.trans c⟩
    clear hP3 tP3 ef3 hS3 c32 q
    walk_at "gg"
    rw [hfml]
    refine g_draw hP32 (by omega) hb250 fun d1 H4 lo1 hi1 hP4 c4 => ?_
    obtain ⟨n1, rfl⟩ : ∃ n1 : Nat, d1 = (n1 : Int) := ⟨d1.toNat, by omega⟩
    obtain ⟨f, hf⟩ : ∃ f, (allF P)[n1]? = some f := ⟨_, List.getElem?_eq_getElem (by omega)⟩
    have hfm := List.mem_of_getElem? hf
    obtain ⟨j, p, ts, hA⟩ := allF_at hfine hfm
    refine g_ixL (.of (c4 _ _ hfl ef32)) (v := .str f) (atI_of (by omega) (by rw [show ((n1 : Nat) : Int).toNat = n1 from by omega, List.getElem?_map, hf]; rfl)) ?_
    have tP4 := tP32.mono (hP32.tk c4)
    clear ef32 lo1 hi1 hb250 hf
    walk_at "gg"
    refine ⟨v, P, f, j, p, ts, rfl, tP4, hfine, hA, fun ba bb bv H5 e5 eb5 t5 s5 => ?_⟩
    have tP5 := tP4.mono (Same.tk s5)
    walk_at "gg"
    refine ⟨v, P, f, j, p, ts, rfl, tP5, hfine, hA, fun d H6 w6 s6 => ?_⟩
    have s46 := s5.trans s6
    have hP6 := hP4.same s46
    have tP6 := tP5.mono (Same.tk s6)
    have t6 := t5.mono (Same.tk s6)
    have c326 : Chg pen H32 H6 := c4.trans (.same s46)
    clear tP4 tP5 hP4 e5 eb5 t5 s5 s6 s46 c4 hP32 tP32
    walk_at "gg"
    refine ⟨_, _, rfl, ?_⟩
    walk_at "gg"
    refine ⟨bv, p, d, _, _, rfl, t6, hA.pre w6, hA.deep, fun l7 us7 H7 n7 e7 tu7 s7 => ?_⟩
    have hP7 := hP6.same s7
    have hl7 : l7 ≠ pen := (hP6.ne n7).1.symm
    walk_at "gg"
    rename_i l71 H71 n71 e71 s71
    have hM71 : PenM H71 l71 none := e71
    refine ⟨l71, none, bv, p, d, _, _, "", rfl, hM71, t6.mono (Same.tk (s7.trans s71)), (hA.pre w6).same (s7.trans s71), hA.deep, .inl rfl, fun l8 us8 x8 H8 n8 e8 tu8 hx8 _ _ c8 => ?_⟩
    have s78 : Same H7 H8 := Same.chg s71 n71 c8
    have hP8 := hP7.same s78
    have hl8 : l8 ≠ pen := ((hP7.same s71).ne n8).1.symm
    have hM8 : PenM H8 pen (some L) := hP8
    walk_at "gg"
    refine ⟨pen, some L, bv, p, d, _, _, "", rfl, hM8, t6.mono (Same.tk (s7.trans s78)), (hA.pre w6).same (s7.trans s78), hA.deep, .inl rfl, fun l9 us9 x9 H9 n9 e9 tu9 hx9 _ hP9' c9 => ?_⟩
    have hP9 : PenAt H9 pen L := hP9'
    have hl9 : l9 ≠ pen := (hP8.ne n9).1.symm
    walk_at "gg"
    rename_i lA HA nA eA sA
    have hlA : lA ≠ pen := (hP9.ne nA).1.symm
    refine g_draw (hP9.same sA) (by decide) (by decide) fun d2 H10 lo2 hi2 hP10 c10 => ?_
    have g7 : GoodR P f (p.bld (waysOf ts p) ++ [backD]) := ⟨j, p, ts, _, hA, by have := DoneR.bld (ws := waysOf ts p) p ""; rwa [show p.bld (waysOf ts p) ++ afterD "" = p.bld (waysOf ts p) from List.append_nil _] at this, rfl⟩
    have g8 : GoodR P f (x8 ++ [backD]) := ⟨j, p, ts, _, hA, hx8, rfl⟩
    have g9 : GoodR P f (x9 ++ [backD]) := ⟨j, p, ts, _, hA, hx9, rfl⟩
    have c910 : Chg pen H9 H10 := (Chg.same sA).trans c10
    have c810 : Chg pen H8 H10 := c9.trans c910
    have c710 : Chg pen H7 H10 := (Chg.same s78).trans c810
    obtain ⟨l, us, x, hlx, hle, htx, hgx⟩ : ∃ (l : Addr) (us : List V) (x : List PyData), atI [V.ref l7, V.ref l8, V.ref l9] d2 = some (.ref l) ∧ H10 l = some (.lst us) ∧ Tps H10 us x ∧ GoodR P f (x ++ [backD]) := by
      have h2 : d2 = 0 ∨ d2 = 1 ∨ d2 = 2 := by omega
      rcases h2 with rfl | rfl | rfl
      · exact ⟨l7, us7, _, rfl, c710 _ _ hl7 e7, tu7.mono (hP7.tk c710), g7⟩
      · exact ⟨l8, us8, _, rfl, c810 _ _ hl8 e8, tu8.mono (hP8.tk c810), g8⟩
      · exact ⟨l9, us9, _, rfl, c910 _ _ hl9 e9, tu9.mono (hP9.tk c910), g9⟩
    refine g_ixL (.of (c10 _ _ hlA eA)) hlx ?_
    have tP10 := (tP6.mono (Same.tk s7)).mono (hP7.tk c710)
    have c3210 : Chg pen H32 H10 := c326.trans ((Chg.same s7).trans c710)
    clear g7 g8 g9 e7 tu7 e8 tu8 e9 tu9 eA hlx c710 c810 c910 c8 c9 sA s78 s7 s71 e71 c10 hx8 hx9 hP7 hP8 hP9 hP9' hM71 hM8 hP6 n7 n8 n9 n71 nA lo2 hi2 tP6 t6 w6 c326
    walk_at "gg"
    rename_i a11 H11 n11 e11 s11 a12 H12 n12 e12 s12
    have hul : us.length ≤ 400 := by
      have := hgx.len
      rw [List.length_append] at this
      rw [htx.length]
      omega
    refine g_addL (s12 _ _ (s11 _ _ hle)) e12 (by simp only [List.length_singleton]; show _ ≤ 16777216; omega) ?_
    walk_at "gg"
    rename_i l13 H13 n13 e13 s13 a14 H14 n14 e14 s14
    have s114 : Same H10 H14 := s11.trans (s12.trans (s13.trans s14))
    have tdue : Tps H14 (us ++ [.ref a11]) (x ++ [backD]) := Tps.append (htx.mono (Same.tk s114)) (.one (.tup (s14 _ _ (s13 _ _ (s12 _ _ e11))) (.one (.str _))))
    have hP14 := hP10.same s114
    have tP14 := tP10.mono (Same.tk s114)
    have hits := hgx.its hP14 tdue
    have c3214 : Chg pen H32 H14 := c3210.trans (.same s114)
    clear tP10 hP10 htx hle e11 e12 e13 n11 n12 n13 n14 s11 s12 s13 s14 s114 c3210
    refine ⟨pen, L, a14, _, _, S60, 25, 5000, rfl, hP14, hP14.neT e14, e14, hits, (by simp), by decide, by decide, by decide, by decide, by decide, fun b1 ub1 R1 H15 nb1 eb1 hb1 hP15 c15 => ?_⟩
    have tP15 := tP14.mono (hP14.tk c15)
    have c3215 := c3214.trans c15
    refine g_name rfl ?_
    refine g_for (g_seqL (g_lst (g_cons (g_var rfl (g_cons (g_call (g_cons (g_var rfl (g_cons (g_op (g_var rfl (g_tup (g_cons (g_tup (g_cons (g_c (g_nil ⟨by decide, fun a16 H16 n16 e16 s16 => ?_⟩))))))))))))))))) 
    refine g_nil ⟨by show 1 ≤ 16777216; decide, fun a17 H17 n17 e17 s17 => ?_⟩
    have s1517 := s16.trans s17
    have hbl := hb1.len
    refine g_addTJ (s1517 _ _ eb1) e17 (by simp only [List.length_singleton]; show _ ≤ 16777216; omega) fun a18 H18 e18 s18 => ?_
    have s1518 := s1517.trans s18
    have hP18 := hP15.same s1518
    have hbk : Itm pen (S60 + 4) H18 27 5 (.ref a16) backD := ((Itm.tup (D := 0) (hP15.ne n16).1.symm e16 (Its.one (Itm.str back_low (by decide)))).same (s17.trans s18)).up (by decide) (Nat.le_refl _)
    have hb18 := Its.app (hb1.same s1518) (Its.one hbk)
    refine g_nil ⟨pen, L, a18, _, _, S60 + 4, 27, 4 * 5000 + 60 + (5 + 1), rfl, hP18, hP18.neT e18, e18, hb18, (by simp), by decide, by decide, by decide, by decide, by decide, fun b2 ub2 R2 H19 nb2 eb2 hb2 hP19 c19 => ?_⟩
    have c1519 : Chg pen H15 H19 := (Chg.same s1518).trans c19
    refine g_nil ⟨by show 2 ≤ 16777216; decide, fun l20 H20 n20 e20 s20 => ?_⟩
    have hP20 := hP19.same s20
    have tP20 := (tP15.mono (hP15.tk c1519)).mono (Same.tk s20)
    have i1 : Itm pen (S60 + 4) H20 80 150000 (.ref b1) (.tuple R1) := ((Itm.tup nb1 eb1 hb1).mono (c1519.trans (.same s20))).up (by decide) (by decide)
    have i2 : Itm pen (S60 + 4 + 4) H20 80 150000 (.ref b2) (.tuple R2) := ((Itm.tup nb2 eb2 hb2).same s20).up (by decide) (by decide)
    have hall : ∀ x ∈ [V.ref b1, V.ref b2], ∃ B d, Itm pen B H20 80 150000 x d := by
      intro x hx
      simp only [List.mem_cons, List.not_mem_nil, or_false] at hx
      rcases hx with rfl | rfl
      · exact ⟨_, _, i1⟩
      · exact ⟨_, _, i2⟩
    have c3220 : Chg pen H32 H20 := c3215.trans (c1519.trans (.same s20))
    clear i1 i2 hb1 hb2 hb18 hbk eb1 eb2 e16 e17 e18 s16 s17 s18 s1517 s1518 c19 c1519 hP18 hP15 hP19 tP15 n16 n17 c15 c3215 hits hgx tdue tP14 hP14 e14 c3214
    refine g_isL (.of e20) ?_
    refine for_L (xs := [V.ref b1, V.ref b2]) (fun n σ H' => ∃ (x10 : Option V), σ = [some (.ref a), some (.ref pen), some v, some (.ref fl), some (.int (0 + (turn : Int))), some (.str f), some bv, some (.ref d), some (.ref l), some (.ref b1), x10] ∧ Same H20 H') (fun i σ H' ⟨_, _, s⟩ => s _ _ e20)
      ⟨_, rfl, .refl _⟩ ?_ ?_
    · rintro n x σ H21 hx ⟨x10, rfl, s21⟩
      obtain ⟨Bx, dx, hdx⟩ := hall x (List.mem_of_getElem? hx)
      have ht := hdx.same s21
      walk_at "gg"
      refine ⟨v, x, P, f, j, p, ts, dx, rfl, tP20.mono (Same.tk s21), hfine, hA, ht.dj.jq, fun b1 H22 hb1 s22 => ?_⟩
      walk_at "gg"
      refine ⟨pen, v, x, P, f, j, p, ts, dx, rfl, tP20.mono (Same.tk (s21.trans s22)), hfine, hA, ht.dj.mono (.same s22), ht.ni, ht.sh, fun b2 H23 hb2 s23 => ?_⟩
      have hbb : b1 = b2 := by
        have := hb1.trans hb2.symm
        cases b1 <;> cases b2 <;> simp at this ⊢
      subst hbb
      refine ⟨_, _, .bool b1, .bool b1, 1, 1, rfl, .bl _, .bl _, ShowOk.bl.mono (by decide) (by decide), ShowOk.bl.mono (by decide) (by decide), by decide, by decide, ?_⟩
      rw [decide_eq_true rfl]
      walk_at "gg"
      exact ⟨_, rfl, s21.trans (s22.trans s23)⟩
    · rintro σ H21 ⟨x10, rfl, s21⟩
      exact back rfl (hP20.same s21) (c3220.trans (.same s21))
  · rintro σ H4 ⟨x4, x5, x6, x7, x8, x9, x10, rfl, hP4, c4⟩
    have tP4 := tP3.mono (hP3.tk c4)
    walk_at "gg"
    refine ⟨a, ns, rfl, hS3 c4, hl, fun pen2 L2 H5 np2 nL2 hP5 s5 => ?_⟩
    walk_at "gg"
    refine ⟨pen2, L2, _, rfl, hP5, fun v2 P2 ps2 H6 eP2 tP6 hfine2 hP6 c6 => ?_⟩
    rw [eP] at eP2
    cases eP2
    have tP6' : Tp H6 v P.data := (tP4.mono (Same.tk s5)).mono (hP5.pe.tk c6)
    refine g_eqLk (Tp.likeProg tP6' tP6 hfine) (Nat.le_refl 150) ?_
    exact q _

/-! ### the row -/
structure TX (w : World) (K : PySem.W.Frag) (mg : Str → Option Value) : Prop where
  d_within : ∃ fd, FunD K "within" "within" (defArgs (topS 3)) (defBody (topS 3)) (defScope (topS 3)) [] [] (He.ga K "within") fd
  f_within : mg "within" = some (.ref (He.ga K "within"))
  d_in_order : ∃ fd, FunD K "in_order" "in_order" (defArgs (topS 4)) (defBody (topS 4)) (defScope (topS 4)) [] [] (He.ga K "in_order") fd
  f_in_order : mg "in_order" = some (.ref (He.ga K "in_order"))
  d_bodies : ∃ fd, FunD K "bodies" "bodies" (defArgs (topS 6)) (defBody (topS 6)) (defScope (topS 6)) [] [] (He.ga K "bodies") fd
  f_bodies : mg "bodies" = some (.ref (He.ga K "bodies"))
  d_number_of : ∃ fd, FunD K "number_of" "number_of" (defArgs (topS 7)) (defBody (topS 7)) (defScope (topS 7)) [] [] (He.ga K "number_of") fd
  f_number_of : mg "number_of" = some (.ref (He.ga K "number_of"))
  d_things_of : ∃ fd, FunD K "things_of" "things_of" (defArgs (topS 8)) (defBody (topS 8)) (defScope (topS 8)) [] [] (He.ga K "things_of") fd
  f_things_of : mg "things_of" = some (.ref (He.ga K "things_of"))
  d_body_of : ∃ fd, FunD K "body_of" "body_of" (defArgs (topS 9)) (defBody (topS 9)) (defScope (topS 9)) [] [] (He.ga K "body_of") fd
  f_body_of : mg "body_of" = some (.ref (He.ga K "body_of"))
  d_house_of : ∃ fd, FunD K "house_of" "house_of" (defArgs (topS 12)) (defBody (topS 12)) (defScope (topS 12)) [] [] (He.ga K "house_of") fd
  f_house_of : mg "house_of" = some (.ref (He.ga K "house_of"))
  d_opening : ∃ fd, FunD K "opening" "opening" (defArgs (topS 13)) (defBody (topS 13)) (defScope (topS 13)) [] [] (He.ga K "opening") fd
  f_opening : mg "opening" = some (.ref (He.ga K "opening"))
  d_building : ∃ fd, FunD K "building" "building" (defArgs (topS 14)) (defBody (topS 14)) (defScope (topS 14)) [] [] (He.ga K "building") fd
  f_building : mg "building" = some (.ref (He.ga K "building"))
  d_is_alike : ∃ fd, FunD K "is_alike" "is_alike" (defArgs (topS 16)) (defBody (topS 16)) (defScope (topS 16)) [] [] (He.ga K "is_alike") fd
  f_is_alike : mg "is_alike" = some (.ref (He.ga K "is_alike"))
  d_behind_all : ∃ fd, FunD K "behind_all" "behind_all" (defArgs (topS 17)) (defBody (topS 17)) (defScope (topS 17)) [] [] (He.ga K "behind_all") fd
  f_behind_all : mg "behind_all" = some (.ref (He.ga K "behind_all"))
  d_doings_all : ∃ fd, FunD K "doings_all" "doings_all" (defArgs (topS 18)) (defBody (topS 18)) (defScope (topS 18)) [] [] (He.ga K "doings_all") fd
  f_doings_all : mg "doings_all" = some (.ref (He.ga K "doings_all"))
  d_sums_end : ∃ fd, FunD K "sums_end" "sums_end" (defArgs (topS 19)) (defBody (topS 19)) (defScope (topS 19)) [] [] (He.ga K "sums_end") fd
  f_sums_end : mg "sums_end" = some (.ref (He.ga K "sums_end"))
  d_is_turn : ∃ fd, FunD K "is_turn" "is_turn" (defArgs (topS 20)) (defBody (topS 20)) (defScope (topS 20)) [] [] (He.ga K "is_turn") fd
  f_is_turn : mg "is_turn" = some (.ref (He.ga K "is_turn"))
  d_turns_end : ∃ fd, FunD K "turns_end" "turns_end" (defArgs (topS 21)) (defBody (topS 21)) (defScope (topS 21)) [] [] (He.ga K "turns_end") fd
  f_turns_end : mg "turns_end" = some (.ref (He.ga K "turns_end"))
  d_sides_end : ∃ fd, FunD K "sides_end" "sides_end" (defArgs (topS 22)) (defBody (topS 22)) (defScope (topS 22)) [] [] (He.ga K "sides_end") fd
  f_sides_end : mg "sides_end" = some (.ref (He.ga K "sides_end"))
  d_doings : ∃ fd, FunD K "doings" "doings" (defArgs (topS 23)) (defBody (topS 23)) (defScope (topS 23)) [] [] (He.ga K "doings") fd
  f_doings : mg "doings" = some (.ref (He.ga K "doings"))
  d_endings : ∃ fd, FunD K "endings" "endings" (defArgs (topS 24)) (defBody (topS 24)) (defScope (topS 24)) [] [] (He.ga K "endings") fd
  f_endings : mg "endings" = some (.ref (He.ga K "endings"))
  d_is_one : ∃ fd, FunD K "is_one" "is_one" (defArgs (topS 25)) (defBody (topS 25)) (defScope (topS 25)) [] [] (He.ga K "is_one") fd
  f_is_one : mg "is_one" = some (.ref (He.ga K "is_one"))
  d_lets_by : ∃ fd, FunD K "lets_by" "lets_by" (defArgs (topS 26)) (defBody (topS 26)) (defScope (topS 26)) [] [] (He.ga K "lets_by") fd
  f_lets_by : mg "lets_by" = some (.ref (He.ga K "lets_by"))
  d_law_pen : ∃ fd, FunD K "_law_pen" "_law_pen" (defArgs (topS 28)) (defBody (topS 28)) (defScope (topS 28)) [] [] (He.ga K "_law_pen") fd
  f_law_pen : mg "_law_pen" = some (.ref (He.ga K "_law_pen"))
  d_law_draw : ∃ fd, FunD K "_law_draw" "_law_draw" (defArgs (topS 29)) (defBody (topS 29)) (defScope (topS 29)) [] [] (He.ga K "_law_draw") fd
  f_law_draw : mg "_law_draw" = some (.ref (He.ga K "_law_draw"))
  d_law_names : ∃ fd, FunD K "_law_names" "_law_names" (defArgs (topS 30)) (defBody (topS 30)) (defScope (topS 30)) [] [] (He.ga K "_law_names") fd
  f_law_names : mg "_law_names" = some (.ref (He.ga K "_law_names"))
  d_law_number : ∃ fd, FunD K "_law_number" "_law_number" (defArgs (topS 31)) (defBody (topS 31)) (defScope (topS 31)) [] [] (He.ga K "_law_number") fd
  f_law_number : mg "_law_number" = some (.ref (He.ga K "_law_number"))
  d_law_leaf : ∃ fd, FunD K "_law_leaf" "_law_leaf" (defArgs (topS 32)) (defBody (topS 32)) (defScope (topS 32)) [] [] (He.ga K "_law_leaf") fd
  f_law_leaf : mg "_law_leaf" = some (.ref (He.ga K "_law_leaf"))
  d_law_fits : ∃ fd, FunD K "_law_fits" "_law_fits" (defArgs (topS 33)) (defBody (topS 33)) (defScope (topS 33)) [] [] (He.ga K "_law_fits") fd
  f_law_fits : mg "_law_fits" = some (.ref (He.ga K "_law_fits"))
  d_law_call : ∃ fd, FunD K "_law_call" "_law_call" (defArgs (topS 34)) (defBody (topS 34)) (defScope (topS 34)) [] [] (He.ga K "_law_call") fd
  f_law_call : mg "_law_call" = some (.ref (He.ga K "_law_call"))
  d_law_let : ∃ fd, FunD K "_law_let" "_law_let" (defArgs (topS 35)) (defBody (topS 35)) (defScope (topS 35)) [] [] (He.ga K "_law_let") fd
  f_law_let : mg "_law_let" = some (.ref (He.ga K "_law_let"))
  d_law_part : ∃ fd, FunD K "_law_part" "_law_part" (defArgs (topS 36)) (defBody (topS 36)) (defScope (topS 36)) [] [] (He.ga K "_law_part") fd
  f_law_part : mg "_law_part" = some (.ref (He.ga K "_law_part"))
  d_law_loop : ∃ fd, FunD K "_law_loop" "_law_loop" (defArgs (topS 37)) (defBody (topS 37)) (defScope (topS 37)) [] [] (He.ga K "_law_loop") fd
  f_law_loop : mg "_law_loop" = some (.ref (He.ga K "_law_loop"))
  d_law_body : ∃ fd, FunD K "_law_body" "_law_body" (defArgs (topS 38)) (defBody (topS 38)) (defScope (topS 38)) [] [] (He.ga K "_law_body") fd
  f_law_body : mg "_law_body" = some (.ref (He.ga K "_law_body"))
  d_law_program : ∃ fd, FunD K "_law_program" "_law_program" (defArgs (topS 39)) (defBody (topS 39)) (defScope (topS 39)) [] [] (He.ga K "_law_program") fd
  f_law_program : mg "_law_program" = some (.ref (He.ga K "_law_program"))
  d_law_all_within : ∃ fd, FunD K "_law_all_within" "_law_all_within" (defArgs (topS 40)) (defBody (topS 40)) (defScope (topS 40)) [] [] (He.ga K "_law_all_within") fd
  f_law_all_within : mg "_law_all_within" = some (.ref (He.ga K "_law_all_within"))
  d_law_body_of : ∃ fd, FunD K "_law_body_of" "_law_body_of" (defArgs (topS 41)) (defBody (topS 41)) (defScope (topS 41)) [] [] (He.ga K "_law_body_of") fd
  f_law_body_of : mg "_law_body_of" = some (.ref (He.ga K "_law_body_of"))
  d_law_ways : ∃ fd, FunD K "_law_ways" "_law_ways" (defArgs (topS 42)) (defBody (topS 42)) (defScope (topS 42)) [] [] (He.ga K "_law_ways") fd
  f_law_ways : mg "_law_ways" = some (.ref (He.ga K "_law_ways"))
  d_law_opened : ∃ fd, FunD K "_law_opened" "_law_opened" (defArgs (topS 43)) (defBody (topS 43)) (defScope (topS 43)) [] [] (He.ga K "_law_opened") fd
  f_law_opened : mg "_law_opened" = some (.ref (He.ga K "_law_opened"))
  d_law_built : ∃ fd, FunD K "_law_built" "_law_built" (defArgs (topS 44)) (defBody (topS 44)) (defScope (topS 44)) [] [] (He.ga K "_law_built") fd
  f_law_built : mg "_law_built" = some (.ref (He.ga K "_law_built"))
  d_law_done : ∃ fd, FunD K "_law_done" "_law_done" (defArgs (topS 45)) (defBody (topS 45)) (defScope (topS 45)) [] [] (He.ga K "_law_done") fd
  f_law_done : mg "_law_done" = some (.ref (He.ga K "_law_done"))
  d_law_functions : ∃ fd, FunD K "_law_functions" "_law_functions" (defArgs (topS 46)) (defBody (topS 46)) (defScope (topS 46)) [] [] (He.ga K "_law_functions") fd
  f_law_functions : mg "_law_functions" = some (.ref (He.ga K "_law_functions"))
  d_law_same : ∃ fd, FunD K "_law_same" "_law_same" (defArgs (topS 47)) (defBody (topS 47)) (defScope (topS 47)) [] [] (He.ga K "_law_same") fd
  f_law_same : mg "_law_same" = some (.ref (He.ga K "_law_same"))
  d_law_met : ∃ fd, FunD K "_law_met" "_law_met" (defArgs (topS 48)) (defBody (topS 48)) (defScope (topS 48)) [] [] (He.ga K "_law_met") fd
  f_law_met : mg "_law_met" = some (.ref (He.ga K "_law_met"))
  d_law_turned : ∃ fd, FunD K "_law_turned" "_law_turned" (defArgs (topS 49)) (defBody (topS 49)) (defScope (topS 49)) [] [] (He.ga K "_law_turned") fd
  f_law_turned : mg "_law_turned" = some (.ref (He.ga K "_law_turned"))
  d_law_ends : ∃ fd, FunD K "_law_ends" "_law_ends" (defArgs (topS 50)) (defBody (topS 50)) (defScope (topS 50)) [] [] (He.ga K "_law_ends") fd
  f_law_ends : mg "_law_ends" = some (.ref (He.ga K "_law_ends"))
  d_law_let_by : ∃ fd, FunD K "_law_let_by" "_law_let_by" (defArgs (topS 51)) (defBody (topS 51)) (defScope (topS 51)) [] [] (He.ga K "_law_let_by") fd
  f_law_let_by : mg "_law_let_by" = some (.ref (He.ga K "_law_let_by"))
  d_law_other : ∃ fd, FunD K "_law_other" "_law_other" (defArgs (topS 52)) (defBody (topS 52)) (defScope (topS 52)) [] [] (He.ga K "_law_other") fd
  f_law_other : mg "_law_other" = some (.ref (He.ga K "_law_other"))
  d_law_bent_step : ∃ fd, FunD K "_law_bent_step" "_law_bent_step" (defArgs (topS 53)) (defBody (topS 53)) (defScope (topS 53)) [] [] (He.ga K "_law_bent_step") fd
  f_law_bent_step : mg "_law_bent_step" = some (.ref (He.ga K "_law_bent_step"))
  d_law_bent : ∃ fd, FunD K "_law_bent" "_law_bent" (defArgs (topS 54)) (defBody (topS 54)) (defScope (topS 54)) [] [] (He.ga K "_law_bent") fd
  f_law_bent : mg "_law_bent" = some (.ref (He.ga K "_law_bent"))
  d_law : ∃ fd, FunD K "law" "law" (defArgs (topS 55)) (defBody (topS 55)) (defScope (topS 55)) [] [] (He.ga K "law") fd
  f_law : mg "law" = some (.ref (He.ga K "law"))
  n_list : mg "list" = none
  n_len : mg "len" = none
  n_enumerate : mg "enumerate" = none
  n_tuple : mg "tuple" = none
  n_isinstance : mg "isinstance" = none
  n_zip : mg "zip" = none
  n_all : mg "all" = none
  n_str : mg "str" = none
  n_int : mg "int" = none
  n_bool : mg "bool" = none
  n_set : mg "set" = none
  n_sorted : mg "sorted" = none
  n_max : mg "max" = none
  n_abs : mg "abs" = none
  n_range : mg "range" = none
  n_min : mg "min" = none
  n_repr : mg "repr" = none
  g_PARTS : mg "PARTS" = some (.ref (He.ga K "PARTS"))
  k_PARTS : KTab K w (He.ga K "PARTS") [("give", V.int 2), ("plus", V.int 2), ("less", V.int 2), ("times", V.int 2), ("below", V.int 2), ("when", V.int 3), ("pair", V.int 2), ("left", V.int 1), ("right", V.int 1)]
  g_OPERATIONS : mg "OPERATIONS" = some (.ref (He.ga K "OPERATIONS"))
  t_OPERATIONS : ∀ H : Hp, SqT K H (He.ga K "OPERATIONS") [V.str "plus", V.str "less", V.str "times", V.str "below"]
  g_SIDES : mg "SIDES" = some (.ref (He.ga K "SIDES"))
  t_SIDES : ∀ H : Hp, SqT K H (He.ga K "SIDES") [V.str "left", V.str "right"]
abbrev st_within : Stmt := topS 3
theorem sc_within : FnScope ["part", "name", "one"] ["part"] (defScope st_within) := ⟨rfl, rfl, rfl, by decide +kernel, rfl, by decide +kernel, by decide +kernel⟩
theorem mk_within {P : Program} {w : World} {K : PySem.W.Frag} {mg : Str → Option Value} {base : Heap} (T : TX w K mg) {j : Nat} {sp : Sp}
    (pure_ : PureOk 1 sp (t_within K w ) 3) : Cal P w K mg base (j + 1) "within" sp := by
  obtain ⟨fd, F⟩ := T.d_within
  refine cal_mk F T.f_within sc_within (F.bindsN fun _ _ _ _ _ _ us hl => match us, hl with | [_], _ => rfl) pure_.len fun cdv A outer s H vs Q E hr h => ?_
  refine ⟨t_within K w , PSs.nox ?_, pure_.run vs H Q E h⟩
  exact (pss_cons (ps_if (pt_cmpR (op_inG (hu_of hr)) (pe_ixG (hu_of hr) (pv 0) pe_int (fun _ _ => rfl)) (pe_glob (v := .ref (He.ga K "PARTS")) rfl T.g_PARTS rfl) (by rfl)) (pss_one (ps_ret (pe_callTy (call_listG rfl) (by rfl) T.n_list (by decide +kernel) (pa_cons (pe_slice sl_any (pv 0) (po_some pe_int) po_none) pa_nil)))) pss_nil)
  (pss_cons (ps_if (pt_cmpR (op_eqG (hu2_of hr)) (pe_ixG (hu_of hr) (pv 0) pe_int (fun _ _ => rfl)) pe_str (nomark _)) (pss_one (ps_ret (pe_op op_addG (pe_lc (own := [("name", 1), ("one", 2)]) (g := (gTup K 2 (gCons (gName 1) (gCons (gName 2) gNil)))) (tt := tYes) rfl sc_within.nd (pi_seq (pe_ixG (hu_of hr) (pv 0) pe_int (fun _ _ => rfl))) (blkOk_by (by kernel_rfl)) (fun _ _ _ _ _ => (pg_tup rfl (pgs_cons (pg_name (i := 1) sc_within.nd rfl (by first | exact Or.inl rfl | exact Or.inr rfl)) (pgs_cons (pg_name (i := 2) sc_within.nd rfl (by first | exact Or.inl rfl | exact Or.inr rfl)) pgs_nil)))) (fun _ _ _ _ _ => pts_nil) (fun _ _ _ _ _ => (pv 2))) (pe_lstN (pa_cons (pe_ixG (hu_of hr) (pv 0) pe_int (fun _ _ => rfl)) pa_nil))))) pss_nil)
  (pss_one (ps_ret (pe_lstN pa_nil)))))
abbrev st_in_order : Stmt := topS 4
theorem sc_in_order : FnScope ["part", "found", "pile", "one"] ["part"] (defScope st_in_order) := ⟨rfl, rfl, rfl, by decide +kernel, rfl, by decide +kernel, by decide +kernel⟩
theorem mk_in_order {P : Program} {w : World} {K : PySem.W.Frag} {mg : Str → Option Value} {base : Heap} (T : TX w K mg) {j : Nat} {sp : Sp} {s_within : Sp} (c_within : Cal P w K mg base j "within" s_within)
    (pure_ : PureOk 1 sp (t_in_order K w s_within) 4) : Cal P w K mg base (j + 1) "in_order" sp := by
  obtain ⟨fd, F⟩ := T.d_in_order
  refine cal_mk F T.f_in_order sc_in_order (F.bindsN fun _ _ _ _ _ _ us hl => match us, hl with | [_], _ => rfl) pure_.len fun cdv A outer s H vs Q E hr h => ?_
  refine ⟨t_in_order K w s_within, PSs.nox ?_, pure_.run vs H Q E h⟩
  exact (pss_cons (ps_set (i := 1) sc_in_order.nd rfl (Or.inl rfl) (pe_lstN pa_nil))
  (pss_cons (ps_set (i := 2) sc_in_order.nd rfl (Or.inl rfl) (pe_lstN (pa_cons (pv 0) pa_nil)))
  (pss_cons (ps_while PassesOwn.never (pt_cmpR (op_neG (hu2_of hr)) (pv 2) (pe_lstN pa_nil) (nomark _)) (pss_cons (ps_set (i := 3) sc_in_order.nd rfl (Or.inl rfl) (pe_bm0 PySem.F.plainAttrs_list PySem.F.slot_list_pop PySem.F.type_list_pop mt_popG (pv 2)))
  (pss_cons (ps_expr (pe_bm PySem.F.plainAttrs_list PySem.F.slot_list_append PySem.F.type_list_append mt_appendG (pv 1) (pa_cons (pv 3) pa_nil)))
  (pss_one (ps_expr (pe_bm PySem.F.plainAttrs_list PySem.F.slot_list_extend PySem.F.type_list_extend mt_extendG (pv 2) (pa_cons (pe_revG (pe_cal c_within hr rfl (pa_cons (pv 3) pa_nil))) pa_nil)))))))
  (pss_one (ps_ret (pv 1))))))
abbrev st_bodies : Stmt := topS 6
theorem sc_bodies : FnScope ["program", "name", "names", "body"] ["program"] (defScope st_bodies) := ⟨rfl, rfl, rfl, by decide +kernel, rfl, by decide +kernel, by decide +kernel⟩
theorem mk_bodies {P : Program} {w : World} {K : PySem.W.Frag} {mg : Str → Option Value} {base : Heap} (T : TX w K mg) {j : Nat} {sp : Sp}
    (pure_ : PureOk 1 sp (t_bodies K w ) 4) : Cal P w K mg base (j + 1) "bodies" sp := by
  obtain ⟨fd, F⟩ := T.d_bodies
  refine cal_mk F T.f_bodies sc_bodies (F.bindsN fun _ _ _ _ _ _ us hl => match us, hl with | [_], _ => rfl) pure_.len fun cdv A outer s H vs Q E hr h => ?_
  refine ⟨t_bodies K w , PSs.nox ?_, pure_.run vs H Q E h⟩
  exact (pss_one (ps_ret (pe_op op_addG (pe_lc (own := [("name", 1), ("names", 2), ("body", 3)]) (g := (gTup K 3 (gCons (gName 1) (gCons (gName 2) (gCons (gName 3) gNil))))) (tt := tYes) rfl sc_bodies.nd (pi_seq (pe_ixG (hu_of hr) (pv 0) pe_int (fun _ _ => rfl))) (blkOk_by (by kernel_rfl)) (fun _ _ _ _ _ => (pg_tup rfl (pgs_cons (pg_name (i := 1) sc_bodies.nd rfl (by first | exact Or.inl rfl | exact Or.inr rfl)) (pgs_cons (pg_name (i := 2) sc_bodies.nd rfl (by first | exact Or.inl rfl | exact Or.inr rfl)) (pgs_cons (pg_name (i := 3) sc_bodies.nd rfl (by first | exact Or.inl rfl | exact Or.inr rfl)) pgs_nil))))) (fun _ _ _ _ _ => pts_nil) (fun _ _ _ _ _ => (pv 3))) (pe_lstN (pa_cons (pe_ixG (hu_of hr) (pv 0) pe_int (fun _ _ => rfl)) pa_nil)))))
abbrev st_number_of : Stmt := topS 7
theorem sc_number_of : FnScope ["program", "f", "names", "name", "things", "body"] ["program", "f"] (defScope st_number_of) := ⟨rfl, rfl, rfl, by decide +kernel, rfl, by decide +kernel, by decide +kernel⟩
theorem mk_number_of {P : Program} {w : World} {K : PySem.W.Frag} {mg : Str → Option Value} {base : Heap} (T : TX w K mg) {j : Nat} {sp : Sp}
    (pure_ : PureOk 2 sp (t_number_of K w ) 6) : Cal P w K mg base (j + 1) "number_of" sp := by
  obtain ⟨fd, F⟩ := T.d_number_of
  refine cal_mk F T.f_number_of sc_number_of (F.bindsN fun _ _ _ _ _ _ us hl => match us, hl with | [_, _], _ => rfl) pure_.len fun cdv A outer s H vs Q E hr h => ?_
  refine ⟨t_number_of K w , PSs.nox ?_, pure_.run vs H Q E h⟩
  exact (pss_cons (ps_setLc (i := 2) (own := [("name", 3), ("things", 4), ("body", 5)]) (g := (gTup K 3 (gCons (gName 3) (gCons (gName 4) (gCons (gName 5) gNil))))) (tt := tYes) rfl sc_number_of.nd rfl rfl (sw_true rfl rfl rfl (by decide +kernel)) (pi_seq (pe_ixG (hu_of hr) (pv 0) pe_int (fun _ _ => rfl))) (blkOk_by (by kernel_rfl)) (fun _ _ _ _ _ => (pg_tup rfl (pgs_cons (pg_name (i := 3) sc_number_of.nd rfl (by first | exact Or.inl rfl | exact Or.inr rfl)) (pgs_cons (pg_name (i := 4) sc_number_of.nd rfl (by first | exact Or.inl rfl | exact Or.inr rfl)) (pgs_cons (pg_name (i := 5) sc_number_of.nd rfl (by first | exact Or.inl rfl | exact Or.inr rfl)) pgs_nil))))) (fun _ _ _ _ _ => pts_nil) (fun _ _ _ _ _ => (pv 3)))
  (pss_one (ps_ret (pe_ifExp (pt_cmpR (op_inG (hu_of hr)) (pv 1) (pv 2) (by rfl)) (pe_bm PySem.F.plainAttrs_list PySem.F.slot_list_index PySem.F.type_list_index mt_index (pv 2) (pa_cons (pv 1) pa_nil)) (pe_callB call_lenG (by rfl) T.n_len (by decide +kernel) (pa_cons (pv 2) pa_nil))))))
abbrev st_things_of : Stmt := topS 8
theorem sc_things_of : FnScope ["program", "f", "number"] ["program", "f"] (defScope st_things_of) := ⟨rfl, rfl, rfl, by decide +kernel, rfl, by decide +kernel, by decide +kernel⟩
theorem mk_things_of {P : Program} {w : World} {K : PySem.W.Frag} {mg : Str → Option Value} {base : Heap} (T : TX w K mg) {j : Nat} {sp : Sp} {s_number_of : Sp} (c_number_of : Cal P w K mg base j "number_of" s_number_of)
    (pure_ : PureOk 2 sp (t_things_of K w s_number_of) 3) : Cal P w K mg base (j + 1) "things_of" sp := by
  obtain ⟨fd, F⟩ := T.d_things_of
  refine cal_mk F T.f_things_of sc_things_of (F.bindsN fun _ _ _ _ _ _ us hl => match us, hl with | [_, _], _ => rfl) pure_.len fun cdv A outer s H vs Q E hr h => ?_
  refine ⟨t_things_of K w s_number_of, PSs.nox ?_, pure_.run vs H Q E h⟩
  exact (pss_cons (ps_set (i := 2) sc_things_of.nd rfl (Or.inl rfl) (pe_cal c_number_of hr rfl (pa_cons (pv 0) (pa_cons (pv 1) pa_nil))))
  (pss_one (ps_ret (pe_ifExp (pt_cmpR (op_eqG (hu2_of hr)) (pv 2) (pe_callB call_lenG (by rfl) T.n_len (by decide +kernel) (pa_cons (pe_ixG (hu_of hr) (pv 0) pe_int (fun _ _ => rfl)) pa_nil)) (nomark _)) (pe_tupN pa_nil) (pe_ixG (hu_of hr) (pe_ixG (hu_of hr) (pe_ixG (hu_of hr) (pv 0) pe_int (fun _ _ => rfl)) (pv 2) (fun _ _ => rfl)) pe_int (fun _ _ => rfl))))))
abbrev st_body_of : Stmt := topS 9
theorem sc_body_of : FnScope ["program", "f"] ["program", "f"] (defScope st_body_of) := ⟨rfl, rfl, rfl, by decide +kernel, rfl, by decide +kernel, by decide +kernel⟩
theorem mk_body_of {P : Program} {w : World} {K : PySem.W.Frag} {mg : Str → Option Value} {base : Heap} (T : TX w K mg) {j : Nat} {sp : Sp} {s_bodies s_number_of : Sp} (c_bodies : Cal P w K mg base j "bodies" s_bodies) (c_number_of : Cal P w K mg base j "number_of" s_number_of)
    (pure_ : PureOk 2 sp (t_body_of K w s_bodies s_number_of) 2) : Cal P w K mg base (j + 1) "body_of" sp := by
  obtain ⟨fd, F⟩ := T.d_body_of
  refine cal_mk F T.f_body_of sc_body_of (F.bindsN fun _ _ _ _ _ _ us hl => match us, hl with | [_, _], _ => rfl) pure_.len fun cdv A outer s H vs Q E hr h => ?_
  refine ⟨t_body_of K w s_bodies s_number_of, PSs.nox ?_, pure_.run vs H Q E h⟩
  exact (pss_one (ps_ret (pe_ixG (hu_of hr) (pe_cal c_bodies hr rfl (pa_cons (pv 0) pa_nil)) (pe_cal c_number_of hr rfl (pa_cons (pv 0) (pa_cons (pv 1) pa_nil))) (fun _ _ => rfl))))
abbrev st_house_of : Stmt := topS 12
theorem sc_house_of : FnScope ["program", "f", "body", "steps", "k", "name", "many", "part", "inner"] ["program", "f"] (defScope st_house_of) := ⟨rfl, rfl, rfl, by decide +kernel, rfl, by decide +kernel, by decide +kernel⟩
theorem mk_house_of {P : Program} {w : World} {K : PySem.W.Frag} {mg : Str → Option Value} {base : Heap} (T : TX w K mg) {j : Nat} {sp : Sp} {s_body_of s_things_of s_in_order : Sp} (c_body_of : Cal P w K mg base j "body_of" s_body_of) (c_things_of : Cal P w K mg base j "things_of" s_things_of) (c_in_order : Cal P w K mg base j "in_order" s_in_order)
    (pure_ : PureOk 2 sp (t_house_of K w s_body_of s_things_of s_in_order) 9) : Cal P w K mg base (j + 1) "house_of" sp := by
  obtain ⟨fd, F⟩ := T.d_house_of
  refine cal_mk F T.f_house_of sc_house_of (F.bindsN fun _ _ _ _ _ _ us hl => match us, hl with | [_, _], _ => rfl) pure_.len fun cdv A outer s H vs Q E hr h => ?_
  refine ⟨t_house_of K w s_body_of s_things_of s_in_order, PSs.nox ?_, pure_.run vs H Q E h⟩
  exact (pss_cons (ps_set (i := 2) sc_house_of.nd rfl (Or.inl rfl) (pe_cal c_body_of hr rfl (pa_cons (pv 0) (pa_cons (pv 1) pa_nil))))
  (pss_cons (ps_set (i := 3) sc_house_of.nd rfl (Or.inl rfl) pe_dnewKN)
  (pss_cons (ps_for PassesOwn.never rfl (pi_enumT (by rfl) T.n_enumerate (pa_cons (pe_cal c_things_of hr rfl (pa_cons (pv 0) (pa_cons (pv 1) pa_nil))) pa_nil)) (pg_tup rfl (pgs_cons (pg_name (i := 4) sc_house_of.nd rfl (by first | exact Or.inl rfl | exact Or.inr rfl)) (pgs_cons (pg_name (i := 5) sc_house_of.nd rfl (by first | exact Or.inl rfl | exact Or.inr rfl)) pgs_nil))) (pss_one (ps_asg (pe_tupN (pa_cons pe_str (pa_cons (pv 4) pa_nil))) (pg_sub (pv 3) (pv 5) (set_any (hu_of hr))))))
  (pss_cons (ps_set (i := 6) sc_house_of.nd rfl (Or.inl rfl) pe_int)
  (pss_cons (ps_for PassesOwn.never rfl (pi_seq (pe_cal c_in_order hr rfl (pa_cons (pv 2) pa_nil))) (pg_name (i := 7) sc_house_of.nd rfl (by first | exact Or.inl rfl | exact Or.inr rfl)) (pss_one (ps_if (pt_cmpR (op_eqG (hu2_of hr)) (pe_ixG (hu_of hr) (pv 7) pe_int (fun _ _ => rfl)) pe_str (nomark _)) (pss_one (ps_for PassesOwn.never rfl (pi_seq (pe_ixG (hu_of hr) (pv 7) pe_int (fun _ _ => rfl))) (pg_tup rfl (pgs_cons (pg_name (i := 5) sc_house_of.nd rfl (by first | exact Or.inl rfl | exact Or.inr rfl)) (pgs_cons (pg_name (i := 8) sc_house_of.nd rfl (by first | exact Or.inl rfl | exact Or.inr rfl)) pgs_nil))) (pss_cons (ps_asg (pe_tupN (pa_cons pe_str (pa_cons (pv 6) pa_nil))) (pg_sub (pv 3) (pv 5) (set_any (hu_of hr))))
  (pss_one (ps_set (i := 6) sc_house_of.nd rfl (Or.inl rfl) (pe_op op_addG (pv 6) pe_int)))))) pss_nil)))
  (pss_one (ps_ret (pe_tupN (pa_cons (pv 2) (pa_cons (pv 3) pa_nil))))))))))
abbrev st_opening : Stmt := topS 13
theorem sc_opening : FnScope ["part", "steps", "first", "found", "name", "inner"] ["part", "steps"] (defScope st_opening) := ⟨rfl, rfl, rfl, by decide +kernel, rfl, by decide +kernel, by decide +kernel⟩
theorem mk_opening {P : Program} {w : World} {K : PySem.W.Frag} {mg : Str → Option Value} {base : Heap} (T : TX w K mg) {j : Nat} {sp : Sp} {s_building : Sp} (c_building : Cal P w K mg base j "building" s_building)
    (pure_ : PureOk 2 sp (t_opening K w s_building) 6) : Cal P w K mg base (j + 1) "opening" sp := by
  obtain ⟨fd, F⟩ := T.d_opening
  refine cal_mk F T.f_opening sc_opening (F.bindsN fun _ _ _ _ _ _ us hl => match us, hl with | [_, _], _ => rfl) pure_.len fun cdv A outer s H vs Q E hr h => ?_
  refine ⟨t_opening K w s_building, PSs.nox ?_, pure_.run vs H Q E h⟩
  exact (pss_cons (ps_set (i := 2) sc_opening.nd rfl (Or.inl rfl) (pe_ixG (hu_of hr) (pe_ixG (hu_of hr) (pv 1) (pe_ixG (hu_of hr) (pe_ixG (hu_of hr) (pe_ixG (hu_of hr) (pv 0) pe_int (fun _ _ => rfl)) pe_int (fun _ _ => rfl)) pe_int (fun _ _ => rfl)) (fun _ _ => rfl)) pe_int (fun _ _ => rfl)))
  (pss_cons (ps_set (i := 3) sc_opening.nd rfl (Or.inl rfl) (pe_lstN (pa_cons (pe_tupN (pa_cons pe_str (pa_cons (pv 2) (pa_cons (pe_callB call_lenG (by rfl) T.n_len (by decide +kernel) (pa_cons (pe_ixG (hu_of hr) (pv 0) pe_int (fun _ _ => rfl)) pa_nil)) pa_nil)))) pa_nil)))
  (pss_cons (ps_for PassesOwn.never rfl (pi_seq (pe_ixG (hu_of hr) (pv 0) pe_int (fun _ _ => rfl))) (pg_tup rfl (pgs_cons (pg_name (i := 4) sc_opening.nd rfl (by first | exact Or.inl rfl | exact Or.inr rfl)) (pgs_cons (pg_name (i := 5) sc_opening.nd rfl (by first | exact Or.inl rfl | exact Or.inr rfl)) pgs_nil))) (pss_cons (ps_expr (pe_bm PySem.F.plainAttrs_list PySem.F.slot_list_extend PySem.F.type_list_extend mt_extendG (pv 3) (pa_cons (pe_cal c_building hr rfl (pa_cons (pv 5) (pa_cons (pv 1) pa_nil))) pa_nil)))
  (pss_one (ps_expr (pe_bm PySem.F.plainAttrs_list PySem.F.slot_list_append PySem.F.type_list_append mt_appendG (pv 3) (pa_cons (pe_tupN (pa_cons pe_str (pa_cons (pe_ixG (hu_of hr) (pe_ixG (hu_of hr) (pv 1) (pv 4) (fun _ _ => rfl)) pe_int (fun _ _ => rfl)) pa_nil))) pa_nil))))))
  (pss_one (ps_ret (pv 3))))))
abbrev st_building : Stmt := topS 14
theorem sc_building : FnScope ["part", "steps", "kind", "found", "inner"] ["part", "steps"] (defScope st_building) := ⟨rfl, rfl, rfl, by decide +kernel, rfl, by decide +kernel, by decide +kernel⟩
theorem mk_building {P : Program} {w : World} {K : PySem.W.Frag} {mg : Str → Option Value} {base : Heap} (T : TX w K mg) {j : Nat} {sp : Sp} {s_opening s_building s_within : Sp} (c_opening : Cal P w K mg base j "opening" s_opening) (c_building : Cal P w K mg base j "building" s_building) (c_within : Cal P w K mg base j "within" s_within)
    (pure_ : PureOk 2 sp (t_building K w s_opening s_building s_within) 5) : Cal P w K mg base (j + 1) "building" sp := by
  obtain ⟨fd, F⟩ := T.d_building
  refine cal_mk F T.f_building sc_building (F.bindsN fun _ _ _ _ _ _ us hl => match us, hl with | [_, _], _ => rfl) pure_.len fun cdv A outer s H vs Q E hr h => ?_
  refine ⟨t_building K w s_opening s_building s_within, PSs.nox ?_, pure_.run vs H Q E h⟩
  exact (pss_cons (ps_set (i := 2) sc_building.nd rfl (Or.inl rfl) (pe_ixG (hu_of hr) (pv 0) pe_int (fun _ _ => rfl)))
  (pss_cons (ps_if (pt_cmpR (op_eqG (hu2_of hr)) (pv 2) pe_str (nomark _)) (pss_one (ps_ret (pe_lstN (pa_cons (pe_ixG (hu_of hr) (pv 1) (pe_ixG (hu_of hr) (pv 0) pe_int (fun _ _ => rfl)) (fun _ _ => rfl)) pa_nil)))) pss_nil)
  (pss_cons (ps_if (pt_cmpR (op_inG (hu_of hr)) (pv 2) (pe_tupN (pa_cons pe_str (pa_cons pe_str pa_nil))) (by rfl)) (pss_one (ps_ret (pe_lstN (pa_cons (pv 0) pa_nil)))) pss_nil)
  (pss_cons (ps_if (pt_cmpR (op_eqG (hu2_of hr)) (pv 2) pe_str (nomark _)) (pss_one (ps_ret (pe_op op_addG (pe_cal c_opening hr rfl (pa_cons (pv 0) (pa_cons (pv 1) pa_nil))) (pe_cal c_building hr rfl (pa_cons (pe_ixG (hu_of hr) (pv 0) pe_int (fun _ _ => rfl)) (pa_cons (pv 1) pa_nil)))))) pss_nil)
  (pss_cons (ps_set (i := 3) sc_building.nd rfl (Or.inl rfl) (pe_lstN pa_nil))
  (pss_cons (ps_for PassesOwn.never rfl (pi_seq (pe_cal c_within hr rfl (pa_cons (pv 0) pa_nil))) (pg_name (i := 4) sc_building.nd rfl (by first | exact Or.inl rfl | exact Or.inr rfl)) (pss_one (ps_expr (pe_bm PySem.F.plainAttrs_list PySem.F.slot_list_extend PySem.F.type_list_extend mt_extendG (pv 3) (pa_cons (pe_cal c_building hr rfl (pa_cons (pv 4) (pa_cons (pv 1) pa_nil))) pa_nil)))))
  (pss_one (ps_ret (pe_op op_addG (pv 3) (pe_lstN (pa_cons (pe_tupN (pa_cons (pv 2) pa_nil)) pa_nil)))))))))))
abbrev st_is_alike : Stmt := topS 16
theorem sc_is_alike : FnScope ["thing", "due", "one", "other"] ["thing", "due"] (defScope st_is_alike) := ⟨rfl, rfl, rfl, by decide +kernel, rfl, by decide +kernel, by decide +kernel⟩
theorem mk_is_alike {P : Program} {w : World} {K : PySem.W.Frag} {mg : Str → Option Value} {base : Heap} (T : TX w K mg) {j : Nat} {sp : Sp} {s_is_alike : Sp} (c_is_alike : Cal P w K mg base j "is_alike" s_is_alike)
    (pure_ : PureOk 2 sp (t_is_alike K w s_is_alike) 4) : Cal P w K mg base (j + 1) "is_alike" sp := by
  obtain ⟨fd, F⟩ := T.d_is_alike
  refine cal_mk F T.f_is_alike sc_is_alike (F.bindsN fun _ _ _ _ _ _ us hl => match us, hl with | [_, _], _ => rfl) pure_.len fun cdv A outer s H vs Q E hr h => ?_
  refine ⟨t_is_alike K w s_is_alike, PSs.nox ?_, pure_.run vs H Q E h⟩
  exact (pss_cons (ps_if (pt_tru (pe_callB call_isiG (by rfl) T.n_isinstance (by decide +kernel) (pa_cons (pv 1) (pa_cons (pe_bltn (v := .ty "tuple") rfl T.n_tuple (by decide +kernel) rfl) pa_nil))) (by intro _; rfl)) (pss_cons (ps_if (PW.pt (pw_or (pt_not (pt_tru (pe_callB call_isiG (by rfl) T.n_isinstance (by decide +kernel) (pa_cons (pv 0) (pa_cons (pe_bltn (v := .ty "tuple") rfl T.n_tuple (by decide +kernel) rfl) pa_nil))) (by intro _; rfl))) (pw_or1 (pt_cmpR (op_neG (hu2_of hr)) (pe_callB call_lenG (by rfl) T.n_len (by decide +kernel) (pa_cons (pv 0) pa_nil)) (pe_callB call_lenG (by rfl) T.n_len (by decide +kernel) (pa_cons (pv 1) pa_nil)) (nomark _))))) (pss_one (ps_ret pe_bl)) pss_nil)
  (pss_one (ps_ret (pe_callB (cr_all rfl) (by rfl) T.n_all (by decide +kernel) (pa_cons (pe_lc (own := [("one", 2), ("other", 3)]) (g := (gTup K 2 (gCons (gName 2) (gCons (gName 3) gNil)))) (tt := tYes) rfl sc_is_alike.nd (pi_zipM (by rfl) T.n_zip (pa_cons (pv 0) (pa_cons (pv 1) pa_nil))) (blkOk_by (by kernel_rfl)) (fun _ _ _ _ _ => (pg_tup rfl (pgs_cons (pg_name (i := 2) sc_is_alike.nd rfl (by first | exact Or.inl rfl | exact Or.inr rfl)) (pgs_cons (pg_name (i := 3) sc_is_alike.nd rfl (by first | exact Or.inl rfl | exact Or.inr rfl)) pgs_nil)))) (fun _ _ _ _ _ => pts_nil) (fun _ _ _ _ _ => (pe_cal c_is_alike hr rfl (pa_cons (pv 2) (pa_cons (pv 3) pa_nil))))) pa_nil))))) pss_nil)
  (pss_cons (ps_if (pt_tru (pe_callB call_isiG (by rfl) T.n_isinstance (by decide +kernel) (pa_cons (pv 1) (pa_cons (pe_bltn (v := .ty "str") rfl T.n_str (by decide +kernel) rfl) pa_nil))) (by intro _; rfl)) (pss_one (ps_ret (pe_andT (pe_callB call_isiG (by rfl) T.n_isinstance (by decide +kernel) (pa_cons (pv 0) (pa_cons (pe_bltn (v := .ty "str") rfl T.n_str (by decide +kernel) rfl) pa_nil))) (pe_one (pe_cmpR (op_eqG (hu2_of hr)) (pv 0) (pv 1) (nomark _)))))) pss_nil)
  (pss_one (ps_ret (pe_andT (pe_callB call_isiG (by rfl) T.n_isinstance (by decide +kernel) (pa_cons (pv 0) (pa_cons (pe_bltn (v := .ty "int") rfl T.n_int (by decide +kernel) rfl) pa_nil))) (pe_andT (pe_notT (pe_callB call_isiG (by rfl) T.n_isinstance (by decide +kernel) (pa_cons (pv 0) (pa_cons (pe_bltn (v := .ty "bool") rfl T.n_bool (by decide +kernel) rfl) pa_nil)))) (pe_one (pe_cmpR (op_eqG (hu2_of hr)) (pv 0) (pv 1) (nomark _)))))))))
abbrev st_behind_all : Stmt := topS 17
theorem sc_behind_all : FnScope ["rows", "ends", "due", "found", "at"] ["rows", "ends", "due"] (defScope st_behind_all) := ⟨rfl, rfl, rfl, by decide +kernel, rfl, by decide +kernel, by decide +kernel⟩
theorem mk_behind_all {P : Program} {w : World} {K : PySem.W.Frag} {mg : Str → Option Value} {base : Heap} (T : TX w K mg) {j : Nat} {sp : Sp} {s_is_alike : Sp} (c_is_alike : Cal P w K mg base j "is_alike" s_is_alike)
    (pure_ : PureOk 3 sp (t_behind_all K w s_is_alike) 5) : Cal P w K mg base (j + 1) "behind_all" sp := by
  obtain ⟨fd, F⟩ := T.d_behind_all
  refine cal_mk F T.f_behind_all sc_behind_all (F.bindsN fun _ _ _ _ _ _ us hl => match us, hl with | [_, _, _], _ => rfl) pure_.len fun cdv A outer s H vs Q E hr h => ?_
  refine ⟨t_behind_all K w s_is_alike, PSs.nox ?_, pure_.run vs H Q E h⟩
  exact (pss_cons (ps_set (i := 3) sc_behind_all.nd rfl (Or.inl rfl) (pe_lstN pa_nil))
  (pss_cons (ps_for PassesOwn.never rfl (pi_seq (pv 1)) (pg_name (i := 4) sc_behind_all.nd rfl (by first | exact Or.inl rfl | exact Or.inr rfl)) (pss_one (ps_if (pt_tru (pe_cal c_is_alike hr rfl (pa_cons (pe_callTy call_tupleG (by rfl) T.n_tuple (by decide +kernel) (pa_cons (pe_slice sl_any (pv 0) (po_some (pv 4)) (po_some (pe_op op_addG (pv 4) (pe_callB call_lenG (by rfl) T.n_len (by decide +kernel) (pa_cons (pv 2) pa_nil))))) pa_nil)) (pa_cons (pe_callTy call_tupleG (by rfl) T.n_tuple (by decide +kernel) (pa_cons (pv 2) pa_nil)) pa_nil))) (by intro _; rfl)) (pss_one (ps_expr (pe_bm PySem.F.plainAttrs_list PySem.F.slot_list_append PySem.F.type_list_append mt_appendG (pv 3) (pa_cons (pe_op op_addG (pv 4) (pe_callB call_lenG (by rfl) T.n_len (by decide +kernel) (pa_cons (pv 2) pa_nil))) pa_nil)))) pss_nil)))
  (pss_one (ps_ret (pv 3)))))
abbrev st_doings_all : Stmt := topS 18
theorem sc_doings_all : FnScope ["rows", "ends", "part", "want", "steps", "found", "at"] ["rows", "ends", "part", "want", "steps"] (defScope st_doings_all) := ⟨rfl, rfl, rfl, by decide +kernel, rfl, by decide +kernel, by decide +kernel⟩
theorem mk_doings_all {P : Program} {w : World} {K : PySem.W.Frag} {mg : Str → Option Value} {base : Heap} (T : TX w K mg) {j : Nat} {sp : Sp} {s_doings : Sp} (c_doings : Cal P w K mg base j "doings" s_doings)
    (pure_ : PureOk 5 sp (t_doings_all K w s_doings) 7) : Cal P w K mg base (j + 1) "doings_all" sp := by
  obtain ⟨fd, F⟩ := T.d_doings_all
  refine cal_mk F T.f_doings_all sc_doings_all (F.bindsN fun _ _ _ _ _ _ us hl => match us, hl with | [_, _, _, _, _], _ => rfl) pure_.len fun cdv A outer s H vs Q E hr h => ?_
  refine ⟨t_doings_all K w s_doings, PSs.nox ?_, pure_.run vs H Q E h⟩
  exact (pss_cons (ps_set (i := 5) sc_doings_all.nd rfl (Or.inl rfl) (pe_lstN pa_nil))
  (pss_cons (ps_for PassesOwn.never rfl (pi_seq (pv 1)) (pg_name (i := 6) sc_doings_all.nd rfl (by first | exact Or.inl rfl | exact Or.inr rfl)) (pss_one (ps_expr (pe_bm PySem.F.plainAttrs_list PySem.F.slot_list_extend PySem.F.type_list_extend mt_extendG (pv 5) (pa_cons (pe_cal c_doings hr rfl (pa_cons (pv 0) (pa_cons (pv 6) (pa_cons (pv 2) (pa_cons (pv 3) (pa_cons (pv 4) pa_nil)))))) pa_nil)))))
  (pss_one (ps_ret (pv 5)))))
abbrev st_sums_end : Stmt := topS 19
theorem sc_sums_end : FnScope ["rows", "at", "part", "steps", "ends"] ["rows", "at", "part", "steps"] (defScope st_sums_end) := ⟨rfl, rfl, rfl, by decide +kernel, rfl, by decide +kernel, by decide +kernel⟩
theorem mk_sums_end {P : Program} {w : World} {K : PySem.W.Frag} {mg : Str → Option Value} {base : Heap} (T : TX w K mg) {j : Nat} {sp : Sp} {s_doings s_doings_all s_behind_all : Sp} (c_doings : Cal P w K mg base j "doings" s_doings) (c_doings_all : Cal P w K mg base j "doings_all" s_doings_all) (c_behind_all : Cal P w K mg base j "behind_all" s_behind_all)
    (pure_ : PureOk 4 sp (t_sums_end K w s_doings s_doings_all s_behind_all) 5) : Cal P w K mg base (j + 1) "sums_end" sp := by
  obtain ⟨fd, F⟩ := T.d_sums_end
  refine cal_mk F T.f_sums_end sc_sums_end (F.bindsN fun _ _ _ _ _ _ us hl => match us, hl with | [_, _, _, _], _ => rfl) pure_.len fun cdv A outer s H vs Q E hr h => ?_
  refine ⟨t_sums_end K w s_doings s_doings_all s_behind_all, PSs.nox ?_, pure_.run vs H Q E h⟩
  exact (pss_cons (ps_set (i := 4) sc_sums_end.nd rfl (Or.inl rfl) (pe_cal c_doings hr rfl (pa_cons (pv 0) (pa_cons (pv 1) (pa_cons (pe_ixG (hu_of hr) (pv 2) pe_int (fun _ _ => rfl)) (pa_cons pe_str (pa_cons (pv 3) pa_nil)))))))
  (pss_cons (ps_set (i := 4) sc_sums_end.nd rfl (Or.inl rfl) (pe_cal c_doings_all hr rfl (pa_cons (pv 0) (pa_cons (pv 4) (pa_cons (pe_ixG (hu_of hr) (pv 2) pe_int (fun _ _ => rfl)) (pa_cons pe_str (pa_cons (pv 3) pa_nil)))))))
  (pss_one (ps_ret (pe_cal c_behind_all hr rfl (pa_cons (pv 0) (pa_cons (pv 4) (pa_cons (pe_lstN (pa_cons (pe_tupN (pa_cons pe_str (pa_cons (pe_ixG (hu_of hr) (pv 2) pe_int (fun _ _ => rfl)) pa_nil))) pa_nil)) pa_nil))))))))
abbrev st_is_turn : Stmt := topS 20
theorem sc_is_turn : FnScope ["thing"] ["thing"] (defScope st_is_turn) := ⟨rfl, rfl, rfl, by decide +kernel, rfl, by decide +kernel, by decide +kernel⟩
theorem mk_is_turn {P : Program} {w : World} {K : PySem.W.Frag} {mg : Str → Option Value} {base : Heap} (T : TX w K mg) {j : Nat} {sp : Sp} {s_is_alike : Sp} (c_is_alike : Cal P w K mg base j "is_alike" s_is_alike)
    (pure_ : PureOk 1 sp (t_is_turn K w s_is_alike) 1) : Cal P w K mg base (j + 1) "is_turn" sp := by
  obtain ⟨fd, F⟩ := T.d_is_turn
  refine cal_mk F T.f_is_turn sc_is_turn (F.bindsN fun _ _ _ _ _ _ us hl => match us, hl with | [_], _ => rfl) pure_.len fun cdv A outer s H vs Q E hr h => ?_
  refine ⟨t_is_turn K w s_is_alike, PSs.nox ?_, pure_.run vs H Q E h⟩
  exact (pss_cons (ps_if (PW.pt (pw_or (pt_not (pt_tru (pe_callB call_isiG (by rfl) T.n_isinstance (by decide +kernel) (pa_cons (pv 0) (pa_cons (pe_bltn (v := .ty "tuple") rfl T.n_tuple (by decide +kernel) rfl) pa_nil))) (by intro _; rfl))) (pw_or (pt_cmpR (op_neG (hu2_of hr)) (pe_callB call_lenG (by rfl) T.n_len (by decide +kernel) (pa_cons (pv 0) pa_nil)) pe_int (nomark _)) (pw_or1 (pt_not (pt_tru (pe_cal c_is_alike hr rfl (pa_cons (pe_ixG (hu_of hr) (pv 0) pe_int (fun _ _ => rfl)) (pa_cons pe_str pa_nil))) (by intro _; rfl))))))) (pss_one (ps_ret pe_bl)) pss_nil)
  (pss_one (ps_ret (pe_andT (pe_callB call_isiG (by rfl) T.n_isinstance (by decide +kernel) (pa_cons (pe_ixG (hu_of hr) (pv 0) pe_int (fun _ _ => rfl)) (pa_cons (pe_bltn (v := .ty "tuple") rfl T.n_tuple (by decide +kernel) rfl) pa_nil))) (pe_one (pe_callB call_isiG (by rfl) T.n_isinstance (by decide +kernel) (pa_cons (pe_ixG (hu_of hr) (pv 0) pe_int (fun _ _ => rfl)) (pa_cons (pe_bltn (v := .ty "tuple") rfl T.n_tuple (by decide +kernel) rfl) pa_nil))))))))
abbrev st_turns_end : Stmt := topS 21
theorem sc_turns_end : FnScope ["rows", "at", "part", "want", "steps", "found", "end", "yes"] ["rows", "at", "part", "want", "steps"] (defScope st_turns_end) := ⟨rfl, rfl, rfl, by decide +kernel, rfl, by decide +kernel, by decide +kernel⟩
theorem mk_turns_end {P : Program} {w : World} {K : PySem.W.Frag} {mg : Str → Option Value} {base : Heap} (T : TX w K mg) {j : Nat} {sp : Sp} {s_doings s_is_turn s_is_one : Sp} (c_doings : Cal P w K mg base j "doings" s_doings) (c_is_turn : Cal P w K mg base j "is_turn" s_is_turn) (c_is_one : Cal P w K mg base j "is_one" s_is_one)
    (pure_ : PureOk 5 sp (t_turns_end K w s_doings s_is_turn s_is_one) 8) : Cal P w K mg base (j + 1) "turns_end" sp := by
  obtain ⟨fd, F⟩ := T.d_turns_end
  refine cal_mk F T.f_turns_end sc_turns_end (F.bindsN fun _ _ _ _ _ _ us hl => match us, hl with | [_, _, _, _, _], _ => rfl) pure_.len fun cdv A outer s H vs Q E hr h => ?_
  refine ⟨t_turns_end K w s_doings s_is_turn s_is_one, PSs.nox ?_, pure_.run vs H Q E h⟩
  exact (pss_cons (ps_set (i := 5) sc_turns_end.nd rfl (Or.inl rfl) (pe_lstN pa_nil))
  (pss_cons (ps_for PassesOwn.never rfl (pi_seq (pe_cal c_doings hr rfl (pa_cons (pv 0) (pa_cons (pv 1) (pa_cons (pe_ixG (hu_of hr) (pv 2) pe_int (fun _ _ => rfl)) (pa_cons pe_str (pa_cons (pv 4) pa_nil))))))) (pg_name (i := 6) sc_turns_end.nd rfl (by first | exact Or.inl rfl | exact Or.inr rfl)) (pss_one (ps_if (PW.pt (pw_and (pt_cmpR op_lt (pv 6) (pe_callB call_lenG (by rfl) T.n_len (by decide +kernel) (pa_cons (pv 0) pa_nil)) (nomark _)) (pw_and1 (pt_tru (pe_cal c_is_turn hr rfl (pa_cons (pe_ixG (hu_of hr) (pv 0) (pv 6) (fun _ _ => rfl)) pa_nil)) (by intro _; rfl))))) (pss_cons (ps_set (i := 7) sc_turns_end.nd rfl (Or.inl rfl) (pe_cal c_is_one hr rfl (pa_cons (pe_ixG (hu_of hr) (pe_ixG (hu_of hr) (pv 0) (pv 6) (fun _ _ => rfl)) pe_int (fun _ _ => rfl)) (pa_cons (pe_ixG (hu_of hr) (pv 2) pe_int (fun _ _ => rfl)) (pa_cons (pv 3) (pa_cons (pv 4) pa_nil))))))
  (pss_one (ps_if (PW.pt (pw_and (pt_tru (pv 7) (by intro _; rfl)) (pw_and1 (pt_tru (pe_cal c_is_one hr rfl (pa_cons (pe_ixG (hu_of hr) (pe_ixG (hu_of hr) (pv 0) (pv 6) (fun _ _ => rfl)) pe_int (fun _ _ => rfl)) (pa_cons (pe_ixG (hu_of hr) (pv 2) pe_int (fun _ _ => rfl)) (pa_cons (pv 3) (pa_cons (pv 4) pa_nil))))) (by intro _; rfl))))) (pss_one (ps_expr (pe_bm PySem.F.plainAttrs_list PySem.F.slot_list_append PySem.F.type_list_append mt_appendG (pv 5) (pa_cons (pe_op op_addG (pv 6) pe_int) pa_nil)))) pss_nil))) pss_nil)))
  (pss_one (ps_ret (pv 5)))))
abbrev st_sides_end : Stmt := topS 22
theorem sc_sides_end : FnScope ["rows", "at", "part", "steps", "ends"] ["rows", "at", "part", "steps"] (defScope st_sides_end) := ⟨rfl, rfl, rfl, by decide +kernel, rfl, by decide +kernel, by decide +kernel⟩
theorem mk_sides_end {P : Program} {w : World} {K : PySem.W.Frag} {mg : Str → Option Value} {base : Heap} (T : TX w K mg) {j : Nat} {sp : Sp} {s_doings s_behind_all : Sp} (c_doings : Cal P w K mg base j "doings" s_doings) (c_behind_all : Cal P w K mg base j "behind_all" s_behind_all)
    (pure_ : PureOk 4 sp (t_sides_end K w s_doings s_behind_all) 5) : Cal P w K mg base (j + 1) "sides_end" sp := by
  obtain ⟨fd, F⟩ := T.d_sides_end
  refine cal_mk F T.f_sides_end sc_sides_end (F.bindsN fun _ _ _ _ _ _ us hl => match us, hl with | [_, _, _, _], _ => rfl) pure_.len fun cdv A outer s H vs Q E hr h => ?_
  refine ⟨t_sides_end K w s_doings s_behind_all, PSs.nox ?_, pure_.run vs H Q E h⟩
  exact (pss_cons (ps_set (i := 4) sc_sides_end.nd rfl (Or.inl rfl) (pe_cal c_doings hr rfl (pa_cons (pv 0) (pa_cons (pv 1) (pa_cons (pe_ixG (hu_of hr) (pv 2) pe_int (fun _ _ => rfl)) (pa_cons pe_str (pa_cons (pv 3) pa_nil)))))))
  (pss_one (ps_ret (pe_cal c_behind_all hr rfl (pa_cons (pv 0) (pa_cons (pv 4) (pa_cons (pe_lstN (pa_cons (pe_tupN (pa_cons pe_str (pa_cons (pe_ixG (hu_of hr) (pv 2) pe_int (fun _ _ => rfl)) pa_nil))) pa_nil)) pa_nil)))))))
abbrev st_doings : Stmt := topS 23
theorem sc_doings : FnScope ["rows", "at", "part", "want", "steps", "kind", "found", "ends", "end"] ["rows", "at", "part", "want", "steps"] (defScope st_doings) := ⟨rfl, rfl, rfl, by decide +kernel, rfl, by decide +kernel, by decide +kernel⟩
theorem mk_doings {P : Program} {w : World} {K : PySem.W.Frag} {mg : Str → Option Value} {base : Heap} (T : TX w K mg) {j : Nat} {sp : Sp} {s_behind_all s_building s_sums_end s_turns_end s_sides_end s_opening s_doings : Sp} (c_behind_all : Cal P w K mg base j "behind_all" s_behind_all) (c_building : Cal P w K mg base j "building" s_building) (c_sums_end : Cal P w K mg base j "sums_end" s_sums_end) (c_turns_end : Cal P w K mg base j "turns_end" s_turns_end) (c_sides_end : Cal P w K mg base j "sides_end" s_sides_end) (c_opening : Cal P w K mg base j "opening" s_opening) (c_doings : Cal P w K mg base j "doings" s_doings)
    (pure_ : PureOk 5 sp (t_doings K w s_behind_all s_building s_sums_end s_turns_end s_sides_end s_opening s_doings) 9) : Cal P w K mg base (j + 1) "doings" sp := by
  obtain ⟨fd, F⟩ := T.d_doings
  refine cal_mk F T.f_doings sc_doings (F.bindsN fun _ _ _ _ _ _ us hl => match us, hl with | [_, _, _, _, _], _ => rfl) pure_.len fun cdv A outer s H vs Q E hr h => ?_
  refine ⟨t_doings K w s_behind_all s_building s_sums_end s_turns_end s_sides_end s_opening s_doings, PSs.nox ?_, pure_.run vs H Q E h⟩
  exact (pss_cons (ps_set (i := 5) sc_doings.nd rfl (Or.inl rfl) (pe_ixG (hu_of hr) (pv 2) pe_int (fun _ _ => rfl)))
  (pss_cons (ps_set (i := 6) sc_doings.nd rfl (Or.inl rfl) (pe_cal c_behind_all hr rfl (pa_cons (pv 0) (pa_cons (pe_lstN (pa_cons (pv 1) pa_nil)) (pa_cons (pe_op op_addG (pe_cal c_building hr rfl (pa_cons (pv 2) (pa_cons (pv 4) pa_nil))) (pe_lstN (pa_cons (pe_tupN (pa_cons pe_str (pa_cons (pv 3) pa_nil))) pa_nil))) pa_nil)))))
  (pss_cons (ps_if (pt_cmpR (op_inG (hu_of hr)) (pv 5) (pe_glob (v := .ref (He.ga K "OPERATIONS")) rfl T.g_OPERATIONS rfl) (by rfl)) (pss_cons (ps_set (i := 7) sc_doings.nd rfl (Or.inl rfl) (pe_cal c_sums_end hr rfl (pa_cons (pv 0) (pa_cons (pv 1) (pa_cons (pv 2) (pa_cons (pv 4) pa_nil))))))
  (pss_cons (ps_if (pt_cmpR (op_eqG (hu2_of hr)) (pv 3) pe_str (nomark _)) (pss_one (ps_set (i := 7) sc_doings.nd rfl (Or.inl rfl) (pe_cal c_behind_all hr rfl (pa_cons (pv 0) (pa_cons (pv 7) (pa_cons (pe_lstN (pa_cons (pe_tupN (pa_cons pe_str (pa_cons (pv 3) pa_nil))) pa_nil)) pa_nil)))))) pss_nil)
  (pss_one (ps_expr (pe_bm PySem.F.plainAttrs_list PySem.F.slot_list_extend PySem.F.type_list_extend mt_extendG (pv 6) (pa_cons (pv 7) pa_nil)))))) (pss_one (ps_if (pt_cmpR (op_eqG (hu2_of hr)) (pv 5) pe_str (nomark _)) (pss_one (ps_expr (pe_bm PySem.F.plainAttrs_list PySem.F.slot_list_extend PySem.F.type_list_extend mt_extendG (pv 6) (pa_cons (pe_cal c_turns_end hr rfl (pa_cons (pv 0) (pa_cons (pv 1) (pa_cons (pv 2) (pa_cons (pv 3) (pa_cons (pv 4) pa_nil)))))) pa_nil)))) (pss_one (ps_if (pt_cmpR (op_inG (hu_of hr)) (pv 5) (pe_glob (v := .ref (He.ga K "SIDES")) rfl T.g_SIDES rfl) (by rfl)) (pss_one (ps_expr (pe_bm PySem.F.plainAttrs_list PySem.F.slot_list_extend PySem.F.type_list_extend mt_extendG (pv 6) (pa_cons (pe_cal c_behind_all hr rfl (pa_cons (pv 0) (pa_cons (pe_cal c_sides_end hr rfl (pa_cons (pv 0) (pa_cons (pv 1) (pa_cons (pv 2) (pa_cons (pv 4) pa_nil))))) (pa_cons (pe_lstN (pa_cons (pe_tupN (pa_cons pe_str (pa_cons (pv 3) pa_nil))) pa_nil)) pa_nil)))) pa_nil)))) (pss_one (ps_if (pt_cmpR (op_eqG (hu2_of hr)) (pv 5) pe_str (nomark _)) (pss_one (ps_for PassesOwn.never rfl (pi_seq (pe_cal c_behind_all hr rfl (pa_cons (pv 0) (pa_cons (pe_lstN (pa_cons (pv 1) pa_nil)) (pa_cons (pe_cal c_opening hr rfl (pa_cons (pv 2) (pa_cons (pv 4) pa_nil))) pa_nil))))) (pg_name (i := 8) sc_doings.nd rfl (by first | exact Or.inl rfl | exact Or.inr rfl)) (pss_one (ps_expr (pe_bm PySem.F.plainAttrs_list PySem.F.slot_list_extend PySem.F.type_list_extend mt_extendG (pv 6) (pa_cons (pe_cal c_doings hr rfl (pa_cons (pv 0) (pa_cons (pv 8) (pa_cons (pe_ixG (hu_of hr) (pv 2) pe_int (fun _ _ => rfl)) (pa_cons (pv 3) (pa_cons (pv 4) pa_nil)))))) pa_nil)))))) pss_nil)))))))
  (pss_one (ps_ret (pe_callB (cr_sortSet rfl) (by rfl) T.n_sorted (by decide +kernel) (pa_cons (pe_callTy (cr_setLI rfl) (by rfl) T.n_set (by decide +kernel) (pa_cons (pv 6) pa_nil)) pa_nil)))))))
abbrev st_endings : Stmt := topS 24
theorem sc_endings : FnScope ["rows", "at", "part", "steps", "kind", "found", "end"] ["rows", "at", "part", "steps"] (defScope st_endings) := ⟨rfl, rfl, rfl, by decide +kernel, rfl, by decide +kernel, by decide +kernel⟩
theorem mk_endings {P : Program} {w : World} {K : PySem.W.Frag} {mg : Str → Option Value} {base : Heap} (T : TX w K mg) {j : Nat} {sp : Sp} {s_behind_all s_building s_sums_end s_turns_end s_sides_end s_opening s_endings : Sp} (c_behind_all : Cal P w K mg base j "behind_all" s_behind_all) (c_building : Cal P w K mg base j "building" s_building) (c_sums_end : Cal P w K mg base j "sums_end" s_sums_end) (c_turns_end : Cal P w K mg base j "turns_end" s_turns_end) (c_sides_end : Cal P w K mg base j "sides_end" s_sides_end) (c_opening : Cal P w K mg base j "opening" s_opening) (c_endings : Cal P w K mg base j "endings" s_endings)
    (pure_ : PureOk 4 sp (t_endings K w s_behind_all s_building s_sums_end s_turns_end s_sides_end s_opening s_endings) 7) : Cal P w K mg base (j + 1) "endings" sp := by
  obtain ⟨fd, F⟩ := T.d_endings
  refine cal_mk F T.f_endings sc_endings (F.bindsN fun _ _ _ _ _ _ us hl => match us, hl with | [_, _, _, _], _ => rfl) pure_.len fun cdv A outer s H vs Q E hr h => ?_
  refine ⟨t_endings K w s_behind_all s_building s_sums_end s_turns_end s_sides_end s_opening s_endings, PSs.nox ?_, pure_.run vs H Q E h⟩
  exact (pss_cons (ps_set (i := 4) sc_endings.nd rfl (Or.inl rfl) (pe_ixG (hu_of hr) (pv 2) pe_int (fun _ _ => rfl)))
  (pss_cons (ps_set (i := 5) sc_endings.nd rfl (Or.inl rfl) (pe_cal c_behind_all hr rfl (pa_cons (pv 0) (pa_cons (pe_lstN (pa_cons (pv 1) pa_nil)) (pa_cons (pe_cal c_building hr rfl (pa_cons (pv 2) (pa_cons (pv 3) pa_nil))) pa_nil)))))
  (pss_cons (ps_if (pt_cmpR (op_inG (hu_of hr)) (pv 4) (pe_glob (v := .ref (He.ga K "OPERATIONS")) rfl T.g_OPERATIONS rfl) (by rfl)) (pss_one (ps_expr (pe_bm PySem.F.plainAttrs_list PySem.F.slot_list_extend PySem.F.type_list_extend mt_extendG (pv 5) (pa_cons (pe_cal c_sums_end hr rfl (pa_cons (pv 0) (pa_cons (pv 1) (pa_cons (pv 2) (pa_cons (pv 3) pa_nil))))) pa_nil)))) (pss_one (ps_if (pt_cmpR (op_eqG (hu2_of hr)) (pv 4) pe_str (nomark _)) (pss_one (ps_expr (pe_bm PySem.F.plainAttrs_list PySem.F.slot_list_extend PySem.F.type_list_extend mt_extendG (pv 5) (pa_cons (pe_cal c_turns_end hr rfl (pa_cons (pv 0) (pa_cons (pv 1) (pa_cons (pv 2) (pa_cons pe_str (pa_cons (pv 3) pa_nil)))))) pa_nil)))) (pss_one (ps_if (pt_cmpR (op_inG (hu_of hr)) (pv 4) (pe_glob (v := .ref (He.ga K "SIDES")) rfl T.g_SIDES rfl) (by rfl)) (pss_one (ps_expr (pe_bm PySem.F.plainAttrs_list PySem.F.slot_list_extend PySem.F.type_list_extend mt_extendG (pv 5) (pa_cons (pe_cal c_sides_end hr rfl (pa_cons (pv 0) (pa_cons (pv 1) (pa_cons (pv 2) (pa_cons (pv 3) pa_nil))))) pa_nil)))) (pss_one (ps_if (pt_cmpR (op_eqG (hu2_of hr)) (pv 4) pe_str (nomark _)) (pss_one (ps_for PassesOwn.never rfl (pi_seq (pe_cal c_behind_all hr rfl (pa_cons (pv 0) (pa_cons (pe_lstN (pa_cons (pv 1) pa_nil)) (pa_cons (pe_cal c_opening hr rfl (pa_cons (pv 2) (pa_cons (pv 3) pa_nil))) pa_nil))))) (pg_name (i := 6) sc_endings.nd rfl (by first | exact Or.inl rfl | exact Or.inr rfl)) (pss_one (ps_expr (pe_bm PySem.F.plainAttrs_list PySem.F.slot_list_extend PySem.F.type_list_extend mt_extendG (pv 5) (pa_cons (pe_cal c_endings hr rfl (pa_cons (pv 0) (pa_cons (pv 6) (pa_cons (pe_ixG (hu_of hr) (pv 2) pe_int (fun _ _ => rfl)) (pa_cons (pv 3) pa_nil))))) pa_nil)))))) pss_nil)))))))
  (pss_one (ps_ret (pe_callB (cr_sortSet rfl) (by rfl) T.n_sorted (by decide +kernel) (pa_cons (pe_callTy (cr_setLI rfl) (by rfl) T.n_set (by decide +kernel) (pa_cons (pv 5) pa_nil)) pa_nil)))))))
abbrev st_is_one : Stmt := topS 25
theorem sc_is_one : FnScope ["rows", "part", "want", "steps"] ["rows", "part", "want", "steps"] (defScope st_is_one) := ⟨rfl, rfl, rfl, by decide +kernel, rfl, by decide +kernel, by decide +kernel⟩
theorem mk_is_one {P : Program} {w : World} {K : PySem.W.Frag} {mg : Str → Option Value} {base : Heap} (T : TX w K mg) {j : Nat} {sp : Sp} {s_endings s_doings : Sp} (c_endings : Cal P w K mg base j "endings" s_endings) (c_doings : Cal P w K mg base j "doings" s_doings)
    (pure_ : PureOk 4 sp (t_is_one K w s_endings s_doings) 4) : Cal P w K mg base (j + 1) "is_one" sp := by
  obtain ⟨fd, F⟩ := T.d_is_one
  refine cal_mk F T.f_is_one sc_is_one (F.bindsN fun _ _ _ _ _ _ us hl => match us, hl with | [_, _, _, _], _ => rfl) pure_.len fun cdv A outer s H vs Q E hr h => ?_
  refine ⟨t_is_one K w s_endings s_doings, PSs.nox ?_, pure_.run vs H Q E h⟩
  exact (pss_cons (ps_if (pt_cmpR (op_eqG (hu2_of hr)) (pv 2) pe_str (nomark _)) (pss_one (ps_ret (pe_cmpR (op_inG (hu_of hr)) (pe_callB call_lenG (by rfl) T.n_len (by decide +kernel) (pa_cons (pv 0) pa_nil)) (pe_cal c_endings hr rfl (pa_cons (pv 0) (pa_cons pe_int (pa_cons (pv 1) (pa_cons (pv 3) pa_nil))))) (by rfl)))) pss_nil)
  (pss_one (ps_ret (pe_cmpR (op_inG (hu_of hr)) (pe_callB call_lenG (by rfl) T.n_len (by decide +kernel) (pa_cons (pv 0) pa_nil)) (pe_cal c_doings hr rfl (pa_cons (pv 0) (pa_cons pe_int (pa_cons (pv 1) (pa_cons (pv 2) (pa_cons (pv 3) pa_nil)))))) (by rfl)))))
abbrev st_lets_by : Stmt := topS 26
theorem sc_lets_by : FnScope ["program", "f", "thing", "body", "steps"] ["program", "f", "thing"] (defScope st_lets_by) := ⟨rfl, rfl, rfl, by decide +kernel, rfl, by decide +kernel, by decide +kernel⟩
theorem mk_lets_by {P : Program} {w : World} {K : PySem.W.Frag} {mg : Str → Option Value} {base : Heap} (T : TX w K mg) {j : Nat} {sp : Sp} {s_is_alike s_house_of s_is_one : Sp} (c_is_alike : Cal P w K mg base j "is_alike" s_is_alike) (c_house_of : Cal P w K mg base j "house_of" s_house_of) (c_is_one : Cal P w K mg base j "is_one" s_is_one)
    (pure_ : PureOk 3 sp (t_lets_by K w s_is_alike s_house_of s_is_one) 5) : Cal P w K mg base (j + 1) "lets_by" sp := by
  obtain ⟨fd, F⟩ := T.d_lets_by
  refine cal_mk F T.f_lets_by sc_lets_by (F.bindsN fun _ _ _ _ _ _ us hl => match us, hl with | [_, _, _], _ => rfl) pure_.len fun cdv A outer s H vs Q E hr h => ?_
  refine ⟨t_lets_by K w s_is_alike s_house_of s_is_one, PSs.nox ?_, pure_.run vs H Q E h⟩
  exact (pss_cons (ps_if (PW.pt (pw_or (pt_not (pt_tru (pe_callB call_isiG (by rfl) T.n_isinstance (by decide +kernel) (pa_cons (pv 2) (pa_cons (pe_bltn (v := .ty "tuple") rfl T.n_tuple (by decide +kernel) rfl) pa_nil))) (by intro _; rfl))) (pw_or (pt_cmpR (op_eqT (hu2_of hr)) (pv 2) (pe_tupN pa_nil) (nomark _)) (pw_or1 (pt_not (pt_tru (pe_cal c_is_alike hr rfl (pa_cons (pe_ixG (hu_of hr) (pv 2) (pe_un un_neg pe_int) (fun _ _ => rfl)) (pa_cons (pe_tupN (pa_cons pe_str pa_nil)) pa_nil))) (by intro _; rfl))))))) (pss_one (ps_ret pe_bl)) pss_nil)
  (pss_cons (ps_asg (pe_cal c_house_of hr rfl (pa_cons (pv 0) (pa_cons (pv 1) pa_nil))) (pg_tup rfl (pgs_cons (pg_name (i := 3) sc_lets_by.nd rfl (by first | exact Or.inl rfl | exact Or.inr rfl)) (pgs_cons (pg_name (i := 4) sc_lets_by.nd rfl (by first | exact Or.inl rfl | exact Or.inr rfl)) pgs_nil))))
  (pss_one (ps_ret (pe_cal c_is_one hr rfl (pa_cons (pe_slice sl_any (pv 2) po_none (po_some (pe_un un_neg pe_int))) (pa_cons (pv 3) (pa_cons pe_str (pa_cons (pv 4) pa_nil)))))))))
abbrev st_law_pen : Stmt := topS 28
theorem sc_law_pen : FnScope ["_law_script"] ["_law_script"] (defScope st_law_pen) := ⟨rfl, rfl, rfl, by decide +kernel, rfl, by decide +kernel, by decide +kernel⟩
theorem mk_law_pen {P : Program} {w : World} {K : PySem.W.Frag} {mg : Str → Option Value} {base : Heap} (T : TX w K mg) {j : Nat} {sp : Sp}
    (pure_ : PureOk 1 sp (t_law_pen K w ) 1) : Cal P w K mg base (j + 1) "_law_pen" sp := by
  obtain ⟨fd, F⟩ := T.d_law_pen
  refine cal_mk F T.f_law_pen sc_law_pen (F.bindsN fun _ _ _ _ _ _ us hl => match us, hl with | [_], _ => rfl) pure_.len fun cdv A outer s H vs Q E hr h => ?_
  refine ⟨t_law_pen K w , PSs.nox ?_, pure_.run vs H Q E h⟩
  exact (pss_one (ps_ret (pe_lstN (pa_cons (pe_callTy (call_listG rfl) (by rfl) T.n_list (by decide +kernel) (pa_cons (pe_slice sl_any (pv 0) po_none (po_some pe_int)) pa_nil)) (pa_cons pe_int (pa_cons pe_int pa_nil))))))
abbrev st_law_draw : Stmt := topS 29
theorem sc_law_draw : FnScope ["_law_pen_here", "_law_many", "_law_digit", "_law_at", "_law_cell", "_law_prime", "_law_number_here"] ["_law_pen_here", "_law_many"] (defScope st_law_draw) := ⟨rfl, rfl, rfl, by decide +kernel, rfl, by decide +kernel, by decide +kernel⟩
theorem mk_law_draw {P : Program} {w : World} {K : PySem.W.Frag} {mg : Str → Option Value} {base : Heap} (T : TX w K mg) {j : Nat} {sp : Sp}
    (pure_ : PureOk 2 sp (t_law_draw K w ) 7) : Cal P w K mg base (j + 1) "_law_draw" sp := by
  obtain ⟨fd, F⟩ := T.d_law_draw
  refine cal_mk F T.f_law_draw sc_law_draw (F.bindsN fun _ _ _ _ _ _ us hl => match us, hl with | [_, _], _ => rfl) pure_.len fun cdv A outer s H vs Q E hr h => ?_
  refine ⟨t_law_draw K w , PSs.nox ?_, pure_.run vs H Q E h⟩
  exact (pss_cons (ps_if (pt_cmpR op_gt (pe_ixG (hu_of hr) (pv 0) pe_int (fun _ _ => rfl)) pe_int (nomark _)) (pss_cons (ps_set (i := 2) sc_law_draw.nd rfl (Or.inl rfl) (pe_op op_mod (pe_ixG (hu_of hr) (pv 0) pe_int (fun _ _ => rfl)) (pv 1)))
  (pss_cons (ps_asg (pe_op op_fdivW (pe_ixG (hu_of hr) (pv 0) pe_int (fun _ _ => rfl)) (pv 1)) (pg_sub (pv 0) pe_int (set_any (hu_of hr))))
  (pss_one (ps_ret (pv 2))))) pss_nil)
  (pss_cons (ps_set (i := 3) sc_law_draw.nd rfl (Or.inl rfl) (pe_ixG (hu_of hr) (pv 0) pe_int (fun _ _ => rfl)))
  (pss_cons (ps_asg (pe_op op_addG (pv 3) pe_int) (pg_sub (pv 0) pe_int (set_any (hu_of hr))))
  (pss_cons (ps_set (i := 4) sc_law_draw.nd rfl (Or.inl rfl) (pe_ixG (hu_of hr) (pe_op op_addG (pe_ixG (hu_of hr) (pv 0) pe_int (fun _ _ => rfl)) (pe_lstN (pa_cons pe_int pa_nil))) (pe_op op_mod (pv 3) (pe_callB (call_max2 rfl) (by rfl) T.n_max (by decide +kernel) (pa_cons pe_int (pa_cons (pe_callB call_lenG (by rfl) T.n_len (by decide +kernel) (pa_cons (pe_ixG (hu_of hr) (pv 0) pe_int (fun _ _ => rfl)) pa_nil)) pa_nil)))) (fun _ _ => rfl)))
  (pss_cons (ps_if (PW.pt (pw_and (pt_cmpR op_lt (pv 3) (pe_callB call_lenG (by rfl) T.n_len (by decide +kernel) (pa_cons (pe_ixG (hu_of hr) (pv 0) pe_int (fun _ _ => rfl)) pa_nil)) (nomark _)) (pw_and1 (pt_cmpR op_ge (pe_callB call_abs (by rfl) T.n_abs (by decide +kernel) (pa_cons (pv 4) pa_nil)) (pe_op op_pow pe_int pe_int) (nomark _))))) (pss_cons (ps_asg (pe_op op_fdivW (pe_callB call_abs (by rfl) T.n_abs (by decide +kernel) (pa_cons (pv 4) pa_nil)) (pv 1)) (pg_sub (pv 0) pe_int (set_any (hu_of hr))))
  (pss_one (ps_ret (pe_op op_mod (pe_callB call_abs (by rfl) T.n_abs (by decide +kernel) (pa_cons (pv 4) pa_nil)) (pv 1))))) pss_nil)
  (pss_cons (ps_set (i := 5) sc_law_draw.nd rfl (Or.inl rfl) (pe_ixG (hu_of hr) (pe_lstN (pa_cons pe_int (pa_cons pe_int (pa_cons pe_int (pa_cons pe_int (pa_cons pe_int (pa_cons pe_int (pa_cons pe_int pa_nil)))))))) (pe_op op_mod (pv 3) pe_int) (fun _ _ => rfl)))
  (pss_cons (ps_set (i := 6) sc_law_draw.nd rfl (Or.inl rfl) (pe_op op_mod (pe_op op_mulG (pe_op op_addG (pe_op op_addG (pe_op op_mod (pv 4) pe_int) (pe_op op_mulG pe_int (pv 3))) pe_int) pe_int) (pv 5)))
  (pss_cons (ps_set (i := 6) sc_law_draw.nd rfl (Or.inl rfl) (pe_op op_mod (pe_op op_addG (pe_op op_addG (pe_op op_mulG (pv 6) (pv 6)) (pe_op op_mulG pe_int (pv 6))) (pv 3)) pe_int))
  (pss_cons (ps_set (i := 6) sc_law_draw.nd rfl (Or.inl rfl) (pe_op op_mod (pe_op op_mulG (pv 6) pe_int) pe_int))
  (pss_cons (ps_if (pt_cmpR op_gt (pv 1) (pe_op op_pow pe_int pe_int) (nomark _)) (pss_one (ps_set (i := 6) sc_law_draw.nd rfl (Or.inl rfl) (pe_op op_pow (pv 6) pe_int))) pss_nil)
  (pss_one (ps_ret (pe_op op_mod (pe_op op_fdivW (pv 6) pe_int) (pv 1))))))))))))))
abbrev st_law_names : Stmt := topS 30
theorem sc_law_names : FnScope ["_law_pen_here", "_law_many", "_law_letters", "_law_word", "_law_k", "_law_at", "_law_first", "_law_by"] ["_law_pen_here", "_law_many"] (defScope st_law_names) := ⟨rfl, rfl, rfl, by decide +kernel, rfl, by decide +kernel, by decide +kernel⟩
theorem mk_law_names {P : Program} {w : World} {K : PySem.W.Frag} {mg : Str → Option Value} {base : Heap} (T : TX w K mg) {j : Nat} {sp : Sp} {s_law_draw : Sp} (c_law_draw : Cal P w K mg base j "_law_draw" s_law_draw)
    (pure_ : PureOk 2 sp (t_law_names K w s_law_draw) 8) : Cal P w K mg base (j + 1) "_law_names" sp := by
  obtain ⟨fd, F⟩ := T.d_law_names
  refine cal_mk F T.f_law_names sc_law_names (F.bindsN fun _ _ _ _ _ _ us hl => match us, hl with | [_, _], _ => rfl) pure_.len fun cdv A outer s H vs Q E hr h => ?_
  refine ⟨t_law_names K w s_law_draw, PSs.nox ?_, pure_.run vs H Q E h⟩
  exact (pss_cons (ps_set (i := 2) sc_law_names.nd rfl (Or.inr rfl) pe_str)
  (pss_cons (ps_set (i := 3) sc_law_names.nd rfl (Or.inr rfl) (pe_join pe_str (pe_lc (own := [("_law_k", 4)]) (g := (gName 4)) (tt := tYes) rfl sc_law_names.nd (pi_range1 (by rfl) T.n_range (pa_cons (pe_op op_addG pe_int (pe_cal c_law_draw hr rfl (pa_cons (pv 0) (pa_cons pe_int pa_nil)))) pa_nil)) (blkOk_by (by kernel_rfl)) (fun _ _ _ _ _ => (pg_name (i := 4) sc_law_names.nd rfl (by first | exact Or.inl rfl | exact Or.inr rfl))) (fun _ _ _ _ _ => pts_nil) (fun _ _ _ _ _ => (pe_ixG (hu_of hr) (pv 2) (pe_cal c_law_draw hr rfl (pa_cons (pv 0) (pa_cons pe_int pa_nil))) (fun _ _ => rfl))))))
  (pss_cons (ps_set (i := 5) sc_law_names.nd rfl (Or.inr rfl) (pe_cal c_law_draw hr rfl (pa_cons (pv 0) (pa_cons (pe_callB call_lenG (by rfl) T.n_len (by decide +kernel) (pa_cons (pv 3) pa_nil)) pa_nil))))
  (pss_cons (ps_set (i := 6) sc_law_names.nd rfl (Or.inr rfl) (pe_cal c_law_draw hr rfl (pa_cons (pv 0) (pa_cons pe_int pa_nil))))
  (pss_cons (ps_set (i := 7) sc_law_names.nd rfl (Or.inr rfl) (pe_ixG (hu_of hr) (pe_lstN (pa_cons pe_int (pa_cons pe_int (pa_cons pe_int (pa_cons pe_int (pa_cons pe_int (pa_cons pe_int pa_nil))))))) (pe_cal c_law_draw hr rfl (pa_cons (pv 0) (pa_cons pe_int pa_nil))) (fun _ _ => rfl)))
  (pss_one (ps_ret (pe_lc (own := [("_law_k", 4)]) (g := (gName 4)) (tt := tYes) rfl sc_law_names.nd (pi_range1 (by rfl) T.n_range (pa_cons (pv 1) pa_nil)) (blkOk_by (by kernel_rfl)) (fun _ _ _ _ _ => (pg_name (i := 4) sc_law_names.nd rfl (by first | exact Or.inl rfl | exact Or.inr rfl))) (fun _ _ _ _ _ => pts_nil) (fun _ _ _ _ _ => (pe_op op_addG (pe_op op_addG (pe_slice sl_any (pv 3) po_none (po_some (pv 5))) (pe_ixG (hu_of hr) (pv 2) (pe_op op_mod (pe_op op_addG (pv 6) (pe_op op_mulG (pv 7) (pv 4))) pe_int) (fun _ _ => rfl))) (pe_slice sl_any (pv 3) (po_some (pe_op op_addG (pv 5) pe_int)) po_none)))))))))))
abbrev st_law_number : Stmt := topS 31
theorem sc_law_number : FnScope ["_law_pen_here", "_law_way"] ["_law_pen_here"] (defScope st_law_number) := ⟨rfl, rfl, rfl, by decide +kernel, rfl, by decide +kernel, by decide +kernel⟩
theorem mk_law_number {P : Program} {w : World} {K : PySem.W.Frag} {mg : Str → Option Value} {base : Heap} (T : TX w K mg) {j : Nat} {sp : Sp} {s_law_draw : Sp} (c_law_draw : Cal P w K mg base j "_law_draw" s_law_draw)
    (pure_ : PureOk 1 sp (t_law_number K w s_law_draw) 2) : Cal P w K mg base (j + 1) "_law_number" sp := by
  obtain ⟨fd, F⟩ := T.d_law_number
  refine cal_mk F T.f_law_number sc_law_number (F.bindsN fun _ _ _ _ _ _ us hl => match us, hl with | [_], _ => rfl) pure_.len fun cdv A outer s H vs Q E hr h => ?_
  refine ⟨t_law_number K w s_law_draw, PSs.nox ?_, pure_.run vs H Q E h⟩
  exact (pss_cons (ps_set (i := 1) sc_law_number.nd rfl (Or.inl rfl) (pe_cal c_law_draw hr rfl (pa_cons (pv 0) (pa_cons pe_int pa_nil))))
  (pss_cons (ps_if (pt_cmpR (op_eqG (hu2_of hr)) (pv 1) pe_int (nomark _)) (pss_one (ps_ret (pe_op op_addG (pe_op op_sub (pe_cal c_law_draw hr rfl (pa_cons (pv 0) (pa_cons (pe_op op_sub (pe_op op_mulG pe_int (pe_op op_pow pe_int pe_int)) pe_int) pa_nil))) (pe_op op_pow pe_int pe_int)) pe_int))) pss_nil)
  (pss_cons (ps_if (pt_cmpR (op_eqG (hu2_of hr)) (pv 1) pe_int (nomark _)) (pss_one (ps_ret (pe_op op_sub (pe_cal c_law_draw hr rfl (pa_cons (pv 0) (pa_cons (pe_op op_mulG pe_int (pe_op op_pow pe_int pe_int)) pa_nil))) (pe_op op_pow pe_int pe_int)))) pss_nil)
  (pss_one (ps_ret (pe_op op_sub (pe_cal c_law_draw hr rfl (pa_cons (pv 0) (pa_cons pe_int pa_nil))) (pe_ixG (hu_of hr) (pe_lstN (pa_cons pe_int (pa_cons pe_int (pa_cons pe_int (pa_cons pe_int (pa_cons pe_int (pa_cons pe_int (pa_cons pe_int pa_nil)))))))) (pv 1) (fun _ _ => rfl))))))))
abbrev st_law_leaf : Stmt := topS 32
theorem sc_law_leaf : FnScope ["_law_pen_here", "_law_world", "_law_scope", "_law_want", "_law_way"] ["_law_pen_here", "_law_world", "_law_scope", "_law_want"] (defScope st_law_leaf) := ⟨rfl, rfl, rfl, by decide +kernel, rfl, by decide +kernel, by decide +kernel⟩
theorem mk_law_leaf {P : Program} {w : World} {K : PySem.W.Frag} {mg : Str → Option Value} {base : Heap} (T : TX w K mg) {j : Nat} {sp : Sp} {s_law_draw s_law_number : Sp} (c_law_draw : Cal P w K mg base j "_law_draw" s_law_draw) (c_law_number : Cal P w K mg base j "_law_number" s_law_number)
    (pure_ : PureOk 4 sp (t_law_leaf K w s_law_draw s_law_number) 5) : Cal P w K mg base (j + 1) "_law_leaf" sp := by
  obtain ⟨fd, F⟩ := T.d_law_leaf
  refine cal_mk F T.f_law_leaf sc_law_leaf (F.bindsN fun _ _ _ _ _ _ us hl => match us, hl with | [_, _, _, _], _ => rfl) pure_.len fun cdv A outer s H vs Q E hr h => ?_
  refine ⟨t_law_leaf K w s_law_draw s_law_number, PSs.nox ?_, pure_.run vs H Q E h⟩
  exact (pss_cons (ps_set (i := 4) sc_law_leaf.nd rfl (Or.inl rfl) (pe_cal c_law_draw hr rfl (pa_cons (pv 0) (pa_cons pe_int pa_nil))))
  (pss_cons (ps_if (PW.pt (pw_and (pt_cmpR (op_neG (hu2_of hr)) (pv 2) (pe_lstN pa_nil) (nomark _)) (pw_and1 (pt_cmpR op_gt (pv 4) pe_int (nomark _))))) (pss_one (ps_ret (pe_tupN (pa_cons pe_str (pa_cons (pe_ixG (hu_of hr) (pv 2) (pe_cal c_law_draw hr rfl (pa_cons (pv 0) (pa_cons (pe_callB call_lenG (by rfl) T.n_len (by decide +kernel) (pa_cons (pv 2) pa_nil)) pa_nil))) (fun _ _ => rfl)) pa_nil))))) pss_nil)
  (pss_cons (ps_if (PW.pt (pw_and (pt_cmpR (op_neG (hu2_of hr)) (pv 1) (pe_lstN pa_nil) (nomark _)) (pw_and (pt_cmpR (op_eqG (hu2_of hr)) (pv 3) pe_str (nomark _)) (pw_and1 (pt_cmpR (op_eqG (hu2_of hr)) (pv 4) pe_int (nomark _)))))) (pss_one (ps_ret (pe_tupN (pa_cons pe_str (pa_cons (pe_ixG (hu_of hr) (pe_ixG (hu_of hr) (pv 1) (pe_cal c_law_draw hr rfl (pa_cons (pv 0) (pa_cons (pe_callB call_lenG (by rfl) T.n_len (by decide +kernel) (pa_cons (pv 1) pa_nil)) pa_nil))) (fun _ _ => rfl)) pe_int (fun _ _ => rfl)) pa_nil))))) pss_nil)
  (pss_one (ps_ret (pe_tupN (pa_cons pe_str (pa_cons (pe_cal c_law_number hr rfl (pa_cons (pv 0) pa_nil)) pa_nil))))))))
abbrev st_law_fits : Stmt := topS 33
theorem sc_law_fits : FnScope ["_law_room", "_law_many"] ["_law_room", "_law_many"] (defScope st_law_fits) := ⟨rfl, rfl, rfl, by decide +kernel, rfl, by decide +kernel, by decide +kernel⟩
theorem mk_law_fits {P : Program} {w : World} {K : PySem.W.Frag} {mg : Str → Option Value} {base : Heap} (T : TX w K mg) {j : Nat} {sp : Sp}
    (pure_ : PureOk 2 sp (t_law_fits K w ) 2) : Cal P w K mg base (j + 1) "_law_fits" sp := by
  obtain ⟨fd, F⟩ := T.d_law_fits
  refine cal_mk F T.f_law_fits sc_law_fits (F.bindsN fun _ _ _ _ _ _ us hl => match us, hl with | [_, _], _ => rfl) pure_.len fun cdv A outer s H vs Q E hr h => ?_
  refine ⟨t_law_fits K w , PSs.nox ?_, pure_.run vs H Q E h⟩
  exact (pss_cons (ps_if (pt_cmpR op_lt (pe_ixG (hu_of hr) (pe_ixG (hu_of hr) (pv 0) pe_int (fun _ _ => rfl)) pe_int (fun _ _ => rfl)) (pv 1) (nomark _)) (pss_one (ps_ret pe_bl)) pss_nil)
  (pss_cons (ps_asg (pe_op op_sub (pe_ixG (hu_of hr) (pe_ixG (hu_of hr) (pv 0) pe_int (fun _ _ => rfl)) pe_int (fun _ _ => rfl)) (pv 1)) (pg_sub (pe_ixG (hu_of hr) (pv 0) pe_int (fun _ _ => rfl)) pe_int (set_any (hu_of hr))))
  (pss_one (ps_ret pe_bl))))
abbrev st_law_call : Stmt := topS 34
theorem sc_law_call : FnScope ["_law_pen_here", "_law_world", "_law_scope", "_law_room", "_law_want", "_law_name", "_law_wanted", "_law_many", "_law_part_here", "_law_inner", "_law_k"] ["_law_pen_here", "_law_world", "_law_scope", "_law_room", "_law_want"] (defScope st_law_call) := ⟨rfl, rfl, rfl, by decide +kernel, rfl, by decide +kernel, by decide +kernel⟩
theorem mk_law_call {P : Program} {w : World} {K : PySem.W.Frag} {mg : Str → Option Value} {base : Heap} (T : TX w K mg) {j : Nat} {sp : Sp} {s_law_draw s_law_fits s_law_leaf s_law_part : Sp} (c_law_draw : Cal P w K mg base j "_law_draw" s_law_draw) (c_law_fits : Cal P w K mg base j "_law_fits" s_law_fits) (c_law_leaf : Cal P w K mg base j "_law_leaf" s_law_leaf) (c_law_part : Cal P w K mg base j "_law_part" s_law_part)
    (pure_ : PureOk 5 sp (t_law_call K w s_law_draw s_law_fits s_law_leaf s_law_part) 11) : Cal P w K mg base (j + 1) "_law_call" sp := by
  obtain ⟨fd, F⟩ := T.d_law_call
  refine cal_mk F T.f_law_call sc_law_call (F.bindsN fun _ _ _ _ _ _ us hl => match us, hl with | [_, _, _, _, _], _ => rfl) pure_.len fun cdv A outer s H vs Q E hr h => ?_
  refine ⟨t_law_call K w s_law_draw s_law_fits s_law_leaf s_law_part, PSs.nox ?_, pure_.run vs H Q E h⟩
  exact (pss_cons (ps_asg (pe_ixG (hu_of hr) (pv 1) (pe_cal c_law_draw hr rfl (pa_cons (pv 0) (pa_cons (pe_callB call_lenG (by rfl) T.n_len (by decide +kernel) (pa_cons (pv 1) pa_nil)) pa_nil))) (fun _ _ => rfl)) (pg_tup rfl (pgs_cons (pg_name (i := 5) sc_law_call.nd rfl (by first | exact Or.inl rfl | exact Or.inr rfl)) (pgs_cons (pg_name (i := 6) sc_law_call.nd rfl (by first | exact Or.inl rfl | exact Or.inr rfl)) pgs_nil))))
  (pss_cons (ps_set (i := 7) sc_law_call.nd rfl (Or.inl rfl) (pe_callB (call_max2 rfl) (by rfl) T.n_max (by decide +kernel) (pa_cons pe_int (pa_cons (pe_op op_addG (pv 6) (pe_ixG (hu_of hr) (pe_lstN (pa_cons pe_int (pa_cons pe_int (pa_cons pe_int (pa_cons pe_int (pa_cons pe_int (pa_cons pe_int (pa_cons pe_int (pa_cons (pe_un un_neg pe_int) pa_nil))))))))) (pe_cal c_law_draw hr rfl (pa_cons (pv 0) (pa_cons pe_int pa_nil))) (fun _ _ => rfl))) pa_nil))))
  (pss_cons (ps_if (pt_not (pt_tru (pe_cal c_law_fits hr rfl (pa_cons (pv 3) (pa_cons (pe_op op_mulG pe_int (pv 7)) pa_nil))) (by intro _; rfl))) (pss_one (ps_ret (pe_cal c_law_leaf hr rfl (pa_cons (pv 0) (pa_cons (pv 1) (pa_cons (pv 2) (pa_cons (pv 4) pa_nil))))))) pss_nil)
  (pss_cons (ps_set (i := 8) sc_law_call.nd rfl (Or.inl rfl) (pe_tupN (pa_cons pe_str (pa_cons (pv 5) pa_nil))))
  (pss_cons (ps_set (i := 9) sc_law_call.nd rfl (Or.inl rfl) (pe_lstN (pa_cons (pe_op op_sub (pe_ixG (hu_of hr) (pv 3) pe_int (fun _ _ => rfl)) (pv 7)) (pa_cons (pe_ixG (hu_of hr) (pv 3) pe_int (fun _ _ => rfl)) (pa_cons (pe_ixG (hu_of hr) (pv 3) pe_int (fun _ _ => rfl)) pa_nil)))))
  (pss_cons (ps_for PassesOwn.never rfl (pi_range1 (by rfl) T.n_range (pa_cons (pv 7) pa_nil)) (pg_name (i := 10) sc_law_call.nd rfl (by first | exact Or.inl rfl | exact Or.inr rfl)) (pss_one (ps_set (i := 8) sc_law_call.nd rfl (Or.inl rfl) (pe_tupN (pa_cons pe_str (pa_cons (pv 8) (pa_cons (pe_cal c_law_part hr rfl (pa_cons (pv 0) (pa_cons (pv 1) (pa_cons (pv 2) (pa_cons (pv 9) (pa_cons (pe_ixG (hu_of hr) (pe_lstN (pa_cons pe_str (pa_cons pe_str pa_nil))) (pe_op op_fdivW (pe_cal c_law_draw hr rfl (pa_cons (pv 0) (pa_cons pe_int pa_nil))) pe_int) (fun _ _ => rfl)) pa_nil)))))) pa_nil)))))))
  (pss_one (ps_ret (pv 8)))))))))
abbrev st_law_let : Stmt := topS 35
theorem sc_law_let : FnScope ["_law_pen_here", "_law_world", "_law_scope", "_law_room", "_law_want", "_law_many", "_law_names_here", "_law_k", "_law_rows", "_law_name", "_law_kind"] ["_law_pen_here", "_law_world", "_law_scope", "_law_room", "_law_want"] (defScope st_law_let) := ⟨rfl, rfl, rfl, by decide +kernel, rfl, by decide +kernel, by decide +kernel⟩
theorem mk_law_let {P : Program} {w : World} {K : PySem.W.Frag} {mg : Str → Option Value} {base : Heap} (T : TX w K mg) {j : Nat} {sp : Sp} {s_law_draw s_law_fits s_law_leaf s_law_part : Sp} (c_law_draw : Cal P w K mg base j "_law_draw" s_law_draw) (c_law_fits : Cal P w K mg base j "_law_fits" s_law_fits) (c_law_leaf : Cal P w K mg base j "_law_leaf" s_law_leaf) (c_law_part : Cal P w K mg base j "_law_part" s_law_part)
    (pure_ : PureOk 5 sp (t_law_let K w s_law_draw s_law_fits s_law_leaf s_law_part) 11) : Cal P w K mg base (j + 1) "_law_let" sp := by
  obtain ⟨fd, F⟩ := T.d_law_let
  refine cal_mk F T.f_law_let sc_law_let (F.bindsN fun _ _ _ _ _ _ us hl => match us, hl with | [_, _, _, _, _], _ => rfl) pure_.len fun cdv A outer s H vs Q E hr h => ?_
  refine ⟨t_law_let K w s_law_draw s_law_fits s_law_leaf s_law_part, PSs.nox ?_, pure_.run vs H Q E h⟩
  exact (pss_cons (ps_set (i := 5) sc_law_let.nd rfl (Or.inl rfl) (pe_ixG (hu_of hr) (pe_lstN (pa_cons pe_int (pa_cons pe_int (pa_cons pe_int (pa_cons pe_int (pa_cons pe_int (pa_cons pe_int (pa_cons pe_int pa_nil)))))))) (pe_cal c_law_draw hr rfl (pa_cons (pv 0) (pa_cons pe_int pa_nil))) (fun _ _ => rfl)))
  (pss_cons (ps_if (PW.pt (pw_or (pt_cmpR op_lt (pe_callB call_lenG (by rfl) T.n_len (by decide +kernel) (pa_cons (pe_ixG (hu_of hr) (pv 3) pe_int (fun _ _ => rfl)) pa_nil)) (pv 5) (nomark _)) (pw_or1 (pt_not (pt_tru (pe_cal c_law_fits hr rfl (pa_cons (pv 3) (pa_cons (pe_op op_addG (pv 5) pe_int) pa_nil))) (by intro _; rfl)))))) (pss_one (ps_ret (pe_cal c_law_leaf hr rfl (pa_cons (pv 0) (pa_cons (pv 1) (pa_cons (pv 2) (pa_cons (pv 4) pa_nil))))))) pss_nil)
  (pss_cons (ps_setLc (i := 6) (own := [("_law_k", 7)]) (g := (gName 7)) (tt := tYes) rfl sc_law_let.nd rfl rfl (sw_true rfl rfl rfl (by decide +kernel)) (pi_range1 (by rfl) T.n_range (pa_cons (pv 5) pa_nil)) (blkOk_by (by kernel_rfl)) (fun _ _ _ _ _ => (pg_name (i := 7) sc_law_let.nd rfl (by first | exact Or.inl rfl | exact Or.inr rfl))) (fun _ _ _ _ _ => pts_nil) (fun _ _ _ _ _ => (pe_bm0 PySem.F.plainAttrs_list PySem.F.slot_list_pop PySem.F.type_list_pop mt_popG (pe_ixG (hu_of hr) (pv 3) pe_int (fun _ _ => rfl)))))
  (pss_cons (ps_set (i := 8) sc_law_let.nd rfl (Or.inl rfl) (pe_lstN pa_nil))
  (pss_cons (ps_for PassesOwn.never rfl (pi_seq (pv 6)) (pg_name (i := 9) sc_law_let.nd rfl (by first | exact Or.inl rfl | exact Or.inr rfl)) (pss_cons (ps_set (i := 10) sc_law_let.nd rfl (Or.inl rfl) (pe_ixG (hu_of hr) (pe_lstN (pa_cons pe_str (pa_cons pe_str (pa_cons pe_str pa_nil)))) (pe_cal c_law_draw hr rfl (pa_cons (pv 0) (pa_cons pe_int pa_nil))) (fun _ _ => rfl)))
  (pss_one (ps_expr (pe_bm PySem.F.plainAttrs_list PySem.F.slot_list_append PySem.F.type_list_append mt_appendG (pv 8) (pa_cons (pe_tupN (pa_cons (pv 9) (pa_cons (pe_cal c_law_part hr rfl (pa_cons (pv 0) (pa_cons (pv 1) (pa_cons (pe_op op_addG (pv 2) (pv 6)) (pa_cons (pv 3) (pa_cons (pv 10) pa_nil)))))) pa_nil))) pa_nil))))))
  (pss_one (ps_ret (pe_tupN (pa_cons pe_str (pa_cons (pe_callTy call_tupleG (by rfl) T.n_tuple (by decide +kernel) (pa_cons (pv 8) pa_nil)) (pa_cons (pe_cal c_law_part hr rfl (pa_cons (pv 0) (pa_cons (pv 1) (pa_cons (pe_op op_addG (pv 2) (pv 6)) (pa_cons (pv 3) (pa_cons (pv 4) pa_nil)))))) pa_nil)))))))))))
abbrev st_law_part : Stmt := topS 36
theorem sc_law_part : FnScope ["_law_pen_here", "_law_world", "_law_scope", "_law_room", "_law_want", "_law_words", "_law_word", "_law_inner", "_law_one", "_law_other_here"] ["_law_pen_here", "_law_world", "_law_scope", "_law_room", "_law_want"] (defScope st_law_part) := ⟨rfl, rfl, rfl, by decide +kernel, rfl, by decide +kernel, by decide +kernel⟩
theorem mk_law_part {P : Program} {w : World} {K : PySem.W.Frag} {mg : Str → Option Value} {base : Heap} (T : TX w K mg) {j : Nat} {sp : Sp} {s_law_draw s_law_leaf s_law_call s_law_let s_law_fits s_law_part : Sp} (c_law_draw : Cal P w K mg base j "_law_draw" s_law_draw) (c_law_leaf : Cal P w K mg base j "_law_leaf" s_law_leaf) (c_law_call : Cal P w K mg base j "_law_call" s_law_call) (c_law_let : Cal P w K mg base j "_law_let" s_law_let) (c_law_fits : Cal P w K mg base j "_law_fits" s_law_fits) (c_law_part : Cal P w K mg base j "_law_part" s_law_part)
    (pure_ : PureOk 5 sp (t_law_part K w s_law_draw s_law_leaf s_law_call s_law_let s_law_fits s_law_part) 10) : Cal P w K mg base (j + 1) "_law_part" sp := by
  obtain ⟨fd, F⟩ := T.d_law_part
  refine cal_mk F T.f_law_part sc_law_part (F.bindsN fun _ _ _ _ _ _ us hl => match us, hl with | [_, _, _, _, _], _ => rfl) pure_.len fun cdv A outer s H vs Q E hr h => ?_
  refine ⟨t_law_part K w s_law_draw s_law_leaf s_law_call s_law_let s_law_fits s_law_part, PSs.nox ?_, pure_.run vs H Q E h⟩
  exact (pss_cons (ps_set (i := 5) sc_law_part.nd rfl (Or.inl rfl) (pe_dispN (pps_cons (pe_cl pe_str) (pe_cl pe_str) pps_nil) (by rfl) (by rfl) (fun z => by cases z) (by decide)))
  (pss_cons (ps_asg pe_str (pg_sub (pv 5) pe_str (set_any (hu_of hr))))
  (pss_cons (ps_asg pe_str (pg_sub (pv 5) pe_str (set_any (hu_of hr))))
  (pss_cons (ps_set (i := 6) sc_law_part.nd rfl (Or.inl rfl) (pe_ixG (hu_of hr) (pe_splitG (pe_ixG (hu_of hr) (pv 5) (pv 4) (fun _ _ => rfl)) pe_str) (pe_cal c_law_draw hr rfl (pa_cons (pv 0) (pa_cons pe_int pa_nil))) (fun _ _ => rfl)))
  (pss_cons (ps_set (i := 7) sc_law_part.nd rfl (Or.inl rfl) (pe_lstN (pa_cons (pe_op op_sub (pe_ixG (hu_of hr) (pv 3) pe_int (fun _ _ => rfl)) pe_int) (pa_cons (pe_ixG (hu_of hr) (pv 3) pe_int (fun _ _ => rfl)) (pa_cons (pe_ixG (hu_of hr) (pv 3) pe_int (fun _ _ => rfl)) pa_nil)))))
  (pss_cons (ps_if (PW.pt (pw_or (pt_cmpR op_lt (pe_ixG (hu_of hr) (pv 3) pe_int (fun _ _ => rfl)) pe_int (nomark _)) (pw_or (pt_cmpR (op_eqG (hu2_of hr)) (pv 6) pe_str (nomark _)) (pw_or1 (PW.pt (pw_and (pt_cmpR (op_eqG (hu2_of hr)) (pv 6) pe_str (nomark _)) (pw_and1 (PW.pt (pw_or (pt_cmpR (op_eqG (hu2_of hr)) (pv 1) (pe_lstN pa_nil) (nomark _)) (pw_or1 (pt_cmpR op_lt (pe_ixG (hu_of hr) (pv 3) pe_int (fun _ _ => rfl)) pe_int (nomark _)))))))))))) (pss_one (ps_ret (pe_cal c_law_leaf hr rfl (pa_cons (pv 0) (pa_cons (pv 1) (pa_cons (pv 2) (pa_cons (pv 4) pa_nil))))))) pss_nil)
  (pss_cons (ps_if (pt_cmpR (op_eqG (hu2_of hr)) (pv 6) pe_str (nomark _)) (pss_one (ps_ret (pe_cal c_law_call hr rfl (pa_cons (pv 0) (pa_cons (pv 1) (pa_cons (pv 2) (pa_cons (pv 7) (pa_cons (pv 4) pa_nil)))))))) pss_nil)
  (pss_cons (ps_if (pt_cmpR (op_eqG (hu2_of hr)) (pv 6) pe_str (nomark _)) (pss_one (ps_ret (pe_cal c_law_let hr rfl (pa_cons (pv 0) (pa_cons (pv 1) (pa_cons (pv 2) (pa_cons (pv 7) (pa_cons (pv 4) pa_nil)))))))) pss_nil)
  (pss_cons (ps_if (pt_not (pt_tru (pe_cal c_law_fits hr rfl (pa_cons (pv 3) (pa_cons (pe_ixG (hu_of hr) (pe_dispN (pps_cons (pe_cl pe_str) (pe_cl pe_int) (pps_cons (pe_cl pe_str) (pe_cl pe_int) (pps_cons (pe_cl pe_str) (pe_cl pe_int) (pps_cons (pe_cl pe_str) (pe_cl pe_int) pps_nil)))) (by rfl) (by rfl) (fun z => by cases z) (by decide)) (pv 6) (fun _ _ => rfl)) pa_nil))) (by intro _; rfl))) (pss_one (ps_ret (pe_cal c_law_leaf hr rfl (pa_cons (pv 0) (pa_cons (pv 1) (pa_cons (pv 2) (pa_cons (pv 4) pa_nil))))))) pss_nil)
  (pss_cons (ps_if (pt_cmpR (op_eqG (hu2_of hr)) (pv 6) pe_str (nomark _)) (pss_one (ps_ret (pe_tupN (pa_cons (pe_ixG (hu_of hr) (pe_lstN (pa_cons pe_str (pa_cons pe_str pa_nil))) (pe_cal c_law_draw hr rfl (pa_cons (pv 0) (pa_cons pe_int pa_nil))) (fun _ _ => rfl)) (pa_cons (pe_cal c_law_part hr rfl (pa_cons (pv 0) (pa_cons (pv 1) (pa_cons (pv 2) (pa_cons (pv 7) (pa_cons pe_str pa_nil)))))) pa_nil))))) pss_nil)
  (pss_cons (ps_set (i := 8) sc_law_part.nd rfl (Or.inl rfl) (pe_cal c_law_part hr rfl (pa_cons (pv 0) (pa_cons (pv 1) (pa_cons (pv 2) (pa_cons (pv 7) (pa_cons (pe_ixG (hu_of hr) (pe_lstN (pa_cons pe_str (pa_cons pe_str pa_nil))) (pe_callTy call_int1 (by rfl) T.n_int (by decide +kernel) (pa_cons (pe_cmpR (op_eqG (hu2_of hr)) (pv 6) pe_str (nomark _)) pa_nil)) (fun _ _ => rfl)) pa_nil)))))))
  (pss_cons (ps_set (i := 9) sc_law_part.nd rfl (Or.inl rfl) (pe_cal c_law_part hr rfl (pa_cons (pv 0) (pa_cons (pv 1) (pa_cons (pv 2) (pa_cons (pv 7) (pa_cons (pe_ixG (hu_of hr) (pe_dispN (pps_cons (pe_cl pe_str) (pe_cl pe_str) (pps_cons (pe_cl pe_str) (pe_cl (pv 4)) (pps_cons (pe_cl pe_str) (pe_cl pe_str) pps_nil))) (by rfl) (by rfl) (fun z => by cases z) (by decide)) (pv 6) (fun _ _ => rfl)) pa_nil)))))))
  (pss_cons (ps_if (pt_cmpR (op_eqG (hu2_of hr)) (pv 6) pe_str (nomark _)) (pss_one (ps_ret (pe_tupN (pa_cons pe_str (pa_cons (pv 8) (pa_cons (pv 9) pa_nil)))))) pss_nil)
  (pss_cons (ps_if (pt_cmpR (op_eqG (hu2_of hr)) (pv 6) pe_str (nomark _)) (pss_one (ps_ret (pe_tupN (pa_cons pe_str (pa_cons (pv 8) (pa_cons (pv 9) (pa_cons (pe_cal c_law_part hr rfl (pa_cons (pv 0) (pa_cons (pv 1) (pa_cons (pv 2) (pa_cons (pv 7) (pa_cons (pv 4) pa_nil)))))) pa_nil))))))) pss_nil)
  (pss_one (ps_ret (pe_tupN (pa_cons (pe_ixG (hu_of hr) (pe_lstN (pa_cons pe_str (pa_cons pe_str (pa_cons pe_str (pa_cons pe_str pa_nil))))) (pe_cal c_law_draw hr rfl (pa_cons (pv 0) (pa_cons pe_int pa_nil))) (fun _ _ => rfl)) (pa_cons (pv 8) (pa_cons (pv 9) pa_nil))))))))))))))))))))
abbrev st_law_loop : Stmt := topS 37
theorem sc_law_loop : FnScope ["_law_pen_here", "_law_world", "_law_me", "_law_things", "_law_room", "_law_call_here", "_law_name", "_law_other_here", "_law_one", "_law_more"] ["_law_pen_here", "_law_world", "_law_me", "_law_things", "_law_room"] (defScope st_law_loop) := ⟨rfl, rfl, rfl, by decide +kernel, rfl, by decide +kernel, by decide +kernel⟩
theorem mk_law_loop {P : Program} {w : World} {K : PySem.W.Frag} {mg : Str → Option Value} {base : Heap} (T : TX w K mg) {j : Nat} {sp : Sp} {s_law_part s_law_draw : Sp} (c_law_part : Cal P w K mg base j "_law_part" s_law_part) (c_law_draw : Cal P w K mg base j "_law_draw" s_law_draw)
    (pure_ : PureOk 5 sp (t_law_loop K w s_law_part s_law_draw) 10) : Cal P w K mg base (j + 1) "_law_loop" sp := by
  obtain ⟨fd, F⟩ := T.d_law_loop
  refine cal_mk F T.f_law_loop sc_law_loop (F.bindsN fun _ _ _ _ _ _ us hl => match us, hl with | [_, _, _, _, _], _ => rfl) pure_.len fun cdv A outer s H vs Q E hr h => ?_
  refine ⟨t_law_loop K w s_law_part s_law_draw, PSs.nox ?_, pure_.run vs H Q E h⟩
  exact (pss_cons (ps_set (i := 5) sc_law_loop.nd rfl (Or.inl rfl) (pe_tupN (pa_cons pe_str (pa_cons (pe_tupN (pa_cons pe_str (pa_cons (pv 2) pa_nil))) (pa_cons (pe_tupN (pa_cons pe_str (pa_cons (pe_tupN (pa_cons pe_str (pa_cons (pe_ixG (hu_of hr) (pv 3) pe_int (fun _ _ => rfl)) pa_nil))) (pa_cons (pe_tupN (pa_cons pe_str (pa_cons pe_int pa_nil))) pa_nil)))) pa_nil)))))
  (pss_cons (ps_for PassesOwn.never rfl (pi_seq (pe_slice sl_any (pv 3) (po_some pe_int) po_none)) (pg_name (i := 6) sc_law_loop.nd rfl (by first | exact Or.inl rfl | exact Or.inr rfl)) (pss_cons (ps_set (i := 7) sc_law_loop.nd rfl (Or.inl rfl) (pe_cal c_law_part hr rfl (pa_cons (pv 0) (pa_cons (pv 1) (pa_cons (pv 3) (pa_cons (pe_lstN (pa_cons pe_int (pa_cons (pe_ixG (hu_of hr) (pv 4) pe_int (fun _ _ => rfl)) (pa_cons (pe_ixG (hu_of hr) (pv 4) pe_int (fun _ _ => rfl)) pa_nil)))) (pa_cons pe_str pa_nil)))))))
  (pss_one (ps_set (i := 5) sc_law_loop.nd rfl (Or.inl rfl) (pe_tupN (pa_cons pe_str (pa_cons (pv 5) (pa_cons (pe_ixG (hu_of hr) (pe_lstN (pa_cons (pe_tupN (pa_cons pe_str (pa_cons (pv 6) pa_nil))) (pa_cons (pv 7) pa_nil))) (pe_cal c_law_draw hr rfl (pa_cons (pv 0) (pa_cons pe_int pa_nil))) (fun _ _ => rfl)) pa_nil))))))))
  (pss_cons (ps_set (i := 8) sc_law_loop.nd rfl (Or.inl rfl) (pe_cal c_law_part hr rfl (pa_cons (pv 0) (pa_cons (pv 1) (pa_cons (pv 3) (pa_cons (pe_lstN (pa_cons pe_int (pa_cons (pe_ixG (hu_of hr) (pv 4) pe_int (fun _ _ => rfl)) (pa_cons (pe_ixG (hu_of hr) (pv 4) pe_int (fun _ _ => rfl)) pa_nil)))) (pa_cons pe_str pa_nil)))))))
  (pss_cons (ps_set (i := 9) sc_law_loop.nd rfl (Or.inl rfl) (pe_ixG (hu_of hr) (pe_lstN (pa_cons (pv 5) (pa_cons (pe_tupN (pa_cons pe_str (pa_cons (pv 8) (pa_cons (pv 5) pa_nil)))) (pa_cons (pe_tupN (pa_cons pe_str (pa_cons (pv 8) (pa_cons (pv 5) pa_nil)))) (pa_cons (pe_tupN (pa_cons pe_str (pa_cons (pv 5) (pa_cons (pv 8) pa_nil)))) pa_nil))))) (pe_cal c_law_draw hr rfl (pa_cons (pv 0) (pa_cons pe_int pa_nil))) (fun _ _ => rfl)))
  (pss_one (ps_ret (pe_tupN (pa_cons pe_str (pa_cons (pe_tupN (pa_cons pe_str (pa_cons (pe_ixG (hu_of hr) (pv 3) pe_int (fun _ _ => rfl)) pa_nil))) (pa_cons (pv 9) (pa_cons (pe_cal c_law_part hr rfl (pa_cons (pv 0) (pa_cons (pv 1) (pa_cons (pv 3) (pa_cons (pe_lstN (pa_cons pe_int (pa_cons (pe_ixG (hu_of hr) (pv 4) pe_int (fun _ _ => rfl)) (pa_cons (pe_ixG (hu_of hr) (pv 4) pe_int (fun _ _ => rfl)) pa_nil)))) (pa_cons pe_str pa_nil)))))) pa_nil)))))))))))
abbrev st_law_body : Stmt := topS 38
theorem sc_law_body : FnScope ["_law_pen_here", "_law_world", "_law_me", "_law_things", "_law_stock", "_law_deep", "_law_left", "_law_part_here", "_law_k"] ["_law_pen_here", "_law_world", "_law_me", "_law_things", "_law_stock"] (defScope st_law_body) := ⟨rfl, rfl, rfl, by decide +kernel, rfl, by decide +kernel, by decide +kernel⟩
theorem mk_law_body {P : Program} {w : World} {K : PySem.W.Frag} {mg : Str → Option Value} {base : Heap} (T : TX w K mg) {j : Nat} {sp : Sp} {s_law_draw s_law_loop s_law_part : Sp} (c_law_draw : Cal P w K mg base j "_law_draw" s_law_draw) (c_law_loop : Cal P w K mg base j "_law_loop" s_law_loop) (c_law_part : Cal P w K mg base j "_law_part" s_law_part)
    (pure_ : PureOk 5 sp (t_law_body K w s_law_draw s_law_loop s_law_part) 9) : Cal P w K mg base (j + 1) "_law_body" sp := by
  obtain ⟨fd, F⟩ := T.d_law_body
  refine cal_mk F T.f_law_body sc_law_body (F.bindsN fun _ _ _ _ _ _ us hl => match us, hl with | [_, _, _, _, _], _ => rfl) pure_.len fun cdv A outer s H vs Q E hr h => ?_
  refine ⟨t_law_body K w s_law_draw s_law_loop s_law_part, PSs.nox ?_, pure_.run vs H Q E h⟩
  exact (pss_cons (ps_set (i := 5) sc_law_body.nd rfl (Or.inl rfl) (pe_ixG (hu_of hr) (pe_lstN (pa_cons pe_int (pa_cons pe_int (pa_cons pe_int (pa_cons pe_int pa_nil))))) (pe_cal c_law_draw hr rfl (pa_cons (pv 0) (pa_cons pe_int pa_nil))) (fun _ _ => rfl)))
  (pss_cons (ps_set (i := 6) sc_law_body.nd rfl (Or.inl rfl) (pe_ixG (hu_of hr) (pe_lstN (pa_cons pe_int (pa_cons pe_int (pa_cons pe_int (pa_cons pe_int (pa_cons pe_int (pa_cons pe_int pa_nil))))))) (pe_cal c_law_draw hr rfl (pa_cons (pv 0) (pa_cons pe_int pa_nil))) (fun _ _ => rfl)))
  (pss_cons (ps_if (PW.pt (pw_and (pt_cmpR (op_neG (hu2_of hr)) (pv 2) pe_str (nomark _)) (pw_and (pt_cmpR (op_neG (hu2_of hr)) (pv 3) (pe_lstN pa_nil) (nomark _)) (pw_and1 (pt_cmpR (op_eqG (hu2_of hr)) (pe_cal c_law_draw hr rfl (pa_cons (pv 0) (pa_cons pe_int pa_nil))) pe_int (nomark _)))))) (pss_one (ps_ret (pe_cal c_law_loop hr rfl (pa_cons (pv 0) (pa_cons (pv 1) (pa_cons (pv 2) (pa_cons (pv 3) (pa_cons (pe_lstN (pa_cons (pv 5) (pa_cons (pe_lstN (pa_cons (pe_callB (call_min2 rfl) (by rfl) T.n_min (by decide +kernel) (pa_cons (pv 6) (pa_cons pe_int pa_nil))) pa_nil)) (pa_cons (pv 4) pa_nil)))) pa_nil)))))))) pss_nil)
  (pss_cons (ps_if (PW.pt (pw_and (pt_cmpR (op_eqG (hu2_of hr)) (pv 2) pe_str (nomark _)) (pw_and (pt_cmpR (op_neG (hu2_of hr)) (pv 1) (pe_lstN pa_nil) (nomark _)) (pw_and1 (pt_cmpR (op_eqG (hu2_of hr)) (pe_cal c_law_draw hr rfl (pa_cons (pv 0) (pa_cons pe_int pa_nil))) pe_int (nomark _)))))) (pss_cons (ps_set (i := 7) sc_law_body.nd rfl (Or.inl rfl) (pe_tupN (pa_cons pe_str (pa_cons (pe_ixG (hu_of hr) (pe_ixG (hu_of hr) (pv 1) pe_int (fun _ _ => rfl)) pe_int (fun _ _ => rfl)) pa_nil))))
  (pss_cons (ps_for PassesOwn.never rfl (pi_range1 (by rfl) T.n_range (pa_cons (pe_ixG (hu_of hr) (pe_ixG (hu_of hr) (pv 1) pe_int (fun _ _ => rfl)) pe_int (fun _ _ => rfl)) pa_nil)) (pg_name (i := 8) sc_law_body.nd rfl (by first | exact Or.inl rfl | exact Or.inr rfl)) (pss_one (ps_set (i := 7) sc_law_body.nd rfl (Or.inl rfl) (pe_tupN (pa_cons pe_str (pa_cons (pv 7) (pa_cons (pe_tupN (pa_cons pe_str (pa_cons (pe_cal c_law_draw hr rfl (pa_cons (pv 0) (pa_cons pe_int pa_nil))) pa_nil))) pa_nil)))))))
  (pss_one (ps_ret (pv 7))))) pss_nil)
  (pss_one (ps_ret (pe_cal c_law_part hr rfl (pa_cons (pv 0) (pa_cons (pv 1) (pa_cons (pv 3) (pa_cons (pe_lstN (pa_cons (pv 5) (pa_cons (pe_lstN (pa_cons (pv 6) pa_nil)) (pa_cons (pv 4) pa_nil)))) (pa_cons pe_str pa_nil))))))))))))
abbrev st_law_program : Stmt := topS 39
theorem sc_law_program : FnScope ["_law_pen_here", "_law_names_here", "_law_world", "_law_name", "_law_functions_here", "_law_wanted", "_law_stock", "_law_things"] ["_law_pen_here"] (defScope st_law_program) := ⟨rfl, rfl, rfl, by decide +kernel, rfl, by decide +kernel, by decide +kernel⟩
theorem mk_law_program {P : Program} {w : World} {K : PySem.W.Frag} {mg : Str → Option Value} {base : Heap} (T : TX w K mg) {j : Nat} {sp : Sp} {s_law_names s_law_draw s_law_body : Sp} (c_law_names : Cal P w K mg base j "_law_names" s_law_names) (c_law_draw : Cal P w K mg base j "_law_draw" s_law_draw) (c_law_body : Cal P w K mg base j "_law_body" s_law_body)
    (pure_ : PureOk 1 sp (t_law_program K w s_law_names s_law_draw s_law_body) 8) : Cal P w K mg base (j + 1) "_law_program" sp := by
  obtain ⟨fd, F⟩ := T.d_law_program
  refine cal_mk F T.f_law_program sc_law_program (F.bindsN fun _ _ _ _ _ _ us hl => match us, hl with | [_], _ => rfl) pure_.len fun cdv A outer s H vs Q E hr h => ?_
  refine ⟨t_law_program K w s_law_names s_law_draw s_law_body, PSs.nox ?_, pure_.run vs H Q E h⟩
  exact (pss_cons (ps_set (i := 1) sc_law_program.nd rfl (Or.inl rfl) (pe_cal c_law_names hr rfl (pa_cons (pv 0) (pa_cons (pe_ixG (hu_of hr) (pe_lstN (pa_cons pe_int (pa_cons pe_int (pa_cons pe_int (pa_cons pe_int (pa_cons pe_int (pa_cons pe_int (pa_cons pe_int (pa_cons pe_int pa_nil))))))))) (pe_cal c_law_draw hr rfl (pa_cons (pv 0) (pa_cons pe_int pa_nil))) (fun _ _ => rfl)) pa_nil))))
  (pss_cons (ps_setLc (i := 2) (own := [("_law_name", 3)]) (g := (gName 3)) (tt := tYes) rfl sc_law_program.nd rfl rfl (sw_true rfl rfl rfl (by decide +kernel)) (pi_seq (pv 1)) (blkOk_by (by kernel_rfl)) (fun _ _ _ _ _ => (pg_name (i := 3) sc_law_program.nd rfl (by first | exact Or.inl rfl | exact Or.inr rfl))) (fun _ _ _ _ _ => pts_nil) (fun _ _ _ _ _ => (pe_tupN (pa_cons (pv 3) (pa_cons (pe_ixG (hu_of hr) (pe_lstN (pa_cons pe_int (pa_cons pe_int (pa_cons pe_int (pa_cons pe_int (pa_cons pe_int (pa_cons pe_int (pa_cons pe_int pa_nil)))))))) (pe_cal c_law_draw hr rfl (pa_cons (pv 0) (pa_cons pe_int pa_nil))) (fun _ _ => rfl)) pa_nil)))))
  (pss_cons (ps_set (i := 4) sc_law_program.nd rfl (Or.inl rfl) (pe_lstN pa_nil))
  (pss_cons (ps_for PassesOwn.never rfl (pi_seq (pv 2)) (pg_tup rfl (pgs_cons (pg_name (i := 3) sc_law_program.nd rfl (by first | exact Or.inl rfl | exact Or.inr rfl)) (pgs_cons (pg_name (i := 5) sc_law_program.nd rfl (by first | exact Or.inl rfl | exact Or.inr rfl)) pgs_nil))) (pss_cons (ps_set (i := 6) sc_law_program.nd rfl (Or.inl rfl) (pe_cal c_law_names hr rfl (pa_cons (pv 0) (pa_cons pe_int pa_nil))))
  (pss_cons (ps_set (i := 7) sc_law_program.nd rfl (Or.inl rfl) (pe_slice sl_any (pv 6) po_none (po_some (pv 5))))
  (pss_one (ps_expr (pe_bm PySem.F.plainAttrs_list PySem.F.slot_list_append PySem.F.type_list_append mt_appendG (pv 4) (pa_cons (pe_tupN (pa_cons (pv 3) (pa_cons (pe_callTy call_tupleG (by rfl) T.n_tuple (by decide +kernel) (pa_cons (pv 7) pa_nil)) (pa_cons (pe_cal c_law_body hr rfl (pa_cons (pv 0) (pa_cons (pv 2) (pa_cons (pv 3) (pa_cons (pv 7) (pa_cons (pe_slice sl_any (pv 6) (po_some (pv 5)) po_none) pa_nil)))))) pa_nil)))) pa_nil)))))))
  (pss_one (ps_ret (pe_tupN (pa_cons (pe_callTy call_tupleG (by rfl) T.n_tuple (by decide +kernel) (pa_cons (pv 4) pa_nil)) (pa_cons (pe_cal c_law_body hr rfl (pa_cons (pv 0) (pa_cons (pv 2) (pa_cons pe_str (pa_cons (pe_lstN pa_nil) (pa_cons (pe_cal c_law_names hr rfl (pa_cons (pv 0) (pa_cons pe_int pa_nil))) pa_nil)))))) pa_nil)))))))))
abbrev st_law_all_within : Stmt := topS 40
theorem sc_law_all_within : FnScope ["_law_part_here", "_law_name", "_law_one"] ["_law_part_here"] (defScope st_law_all_within) := ⟨rfl, rfl, rfl, by decide +kernel, rfl, by decide +kernel, by decide +kernel⟩
theorem mk_law_all_within {P : Program} {w : World} {K : PySem.W.Frag} {mg : Str → Option Value} {base : Heap} (T : TX w K mg) {j : Nat} {sp : Sp}
    (pure_ : PureOk 1 sp (t_law_all_within K w ) 3) : Cal P w K mg base (j + 1) "_law_all_within" sp := by
  obtain ⟨fd, F⟩ := T.d_law_all_within
  refine cal_mk F T.f_law_all_within sc_law_all_within (F.bindsN fun _ _ _ _ _ _ us hl => match us, hl with | [_], _ => rfl) pure_.len fun cdv A outer s H vs Q E hr h => ?_
  refine ⟨t_law_all_within K w , PSs.nox ?_, pure_.run vs H Q E h⟩
  exact (pss_cons (ps_if (pt_cmpR (op_eqG (hu2_of hr)) (pe_ixG (hu_of hr) (pv 0) pe_int (fun _ _ => rfl)) pe_str (nomark _)) (pss_one (ps_ret (pe_op op_addG (pe_lc (own := [("_law_name", 1), ("_law_one", 2)]) (g := (gTup K 2 (gCons (gName 1) (gCons (gName 2) gNil)))) (tt := tYes) rfl sc_law_all_within.nd (pi_seq (pe_ixG (hu_of hr) (pv 0) pe_int (fun _ _ => rfl))) (blkOk_by (by kernel_rfl)) (fun _ _ _ _ _ => (pg_tup rfl (pgs_cons (pg_name (i := 1) sc_law_all_within.nd rfl (by first | exact Or.inl rfl | exact Or.inr rfl)) (pgs_cons (pg_name (i := 2) sc_law_all_within.nd rfl (by first | exact Or.inl rfl | exact Or.inr rfl)) pgs_nil)))) (fun _ _ _ _ _ => pts_nil) (fun _ _ _ _ _ => (pv 2))) (pe_lstN (pa_cons (pe_ixG (hu_of hr) (pv 0) pe_int (fun _ _ => rfl)) pa_nil))))) pss_nil)
  (pss_cons (ps_if (pt_cmpR (op_inG (hu_of hr)) (pe_ixG (hu_of hr) (pv 0) pe_int (fun _ _ => rfl)) (pe_tupN (pa_cons pe_str (pa_cons pe_str (pa_cons pe_str pa_nil)))) (by rfl)) (pss_one (ps_ret (pe_lstN pa_nil))) pss_nil)
  (pss_one (ps_ret (pe_callTy (call_listG rfl) (by rfl) T.n_list (by decide +kernel) (pa_cons (pe_slice sl_any (pv 0) (po_some pe_int) po_none) pa_nil))))))
abbrev st_law_body_of : Stmt := topS 41
theorem sc_law_body_of : FnScope ["_law_program_here", "_law_f", "_law_name", "_law_things", "_law_body_here"] ["_law_program_here", "_law_f"] (defScope st_law_body_of) := ⟨rfl, rfl, rfl, by decide +kernel, rfl, by decide +kernel, by decide +kernel⟩
theorem mk_law_body_of {P : Program} {w : World} {K : PySem.W.Frag} {mg : Str → Option Value} {base : Heap} (T : TX w K mg) {j : Nat} {sp : Sp}
    (pure_ : PureOk 2 sp (t_law_body_of K w ) 5) : Cal P w K mg base (j + 1) "_law_body_of" sp := by
  obtain ⟨fd, F⟩ := T.d_law_body_of
  refine cal_mk F T.f_law_body_of sc_law_body_of (F.bindsN fun _ _ _ _ _ _ us hl => match us, hl with | [_, _], _ => rfl) pure_.len fun cdv A outer s H vs Q E hr h => ?_
  refine ⟨t_law_body_of K w , PSs.nox ?_, pure_.run vs H Q E h⟩
  exact (pss_cons (ps_for PassesOwn.never rfl (pi_seq (pe_ixG (hu_of hr) (pv 0) pe_int (fun _ _ => rfl))) (pg_tup rfl (pgs_cons (pg_name (i := 2) sc_law_body_of.nd rfl (by first | exact Or.inl rfl | exact Or.inr rfl)) (pgs_cons (pg_name (i := 3) sc_law_body_of.nd rfl (by first | exact Or.inl rfl | exact Or.inr rfl)) (pgs_cons (pg_name (i := 4) sc_law_body_of.nd rfl (by first | exact Or.inl rfl | exact Or.inr rfl)) pgs_nil)))) (pss_one (ps_if (pt_cmpR (op_eqG (hu2_of hr)) (pv 2) (pv 1) (nomark _)) (pss_one (ps_ret (pe_tupN (pa_cons (pv 3) (pa_cons (pv 4) pa_nil))))) pss_nil)))
  (pss_one (ps_ret (pe_tupN (pa_cons (pe_tupN pa_nil) (pa_cons (pe_ixG (hu_of hr) (pv 0) pe_int (fun _ _ => rfl)) pa_nil))))))
abbrev st_law_ways : Stmt := topS 42
theorem sc_law_ways : FnScope ["_law_program_here", "_law_f", "_law_things", "_law_body_here", "_law_ways_here", "_law_k", "_law_many", "_law_pile", "_law_part_here", "_law_name", "_law_one"] ["_law_program_here", "_law_f"] (defScope st_law_ways) := ⟨rfl, rfl, rfl, by decide +kernel, rfl, by decide +kernel, by decide +kernel⟩
theorem mk_law_ways {P : Program} {w : World} {K : PySem.W.Frag} {mg : Str → Option Value} {base : Heap} (T : TX w K mg) {j : Nat} {sp : Sp} {s_law_body_of s_law_all_within : Sp} (c_law_body_of : Cal P w K mg base j "_law_body_of" s_law_body_of) (c_law_all_within : Cal P w K mg base j "_law_all_within" s_law_all_within)
    (pure_ : PureOk 2 sp (t_law_ways K w s_law_body_of s_law_all_within) 11) : Cal P w K mg base (j + 1) "_law_ways" sp := by
  obtain ⟨fd, F⟩ := T.d_law_ways
  refine cal_mk F T.f_law_ways sc_law_ways (F.bindsN fun _ _ _ _ _ _ us hl => match us, hl with | [_, _], _ => rfl) pure_.len fun cdv A outer s H vs Q E hr h => ?_
  refine ⟨t_law_ways K w s_law_body_of s_law_all_within, PSs.nox ?_, pure_.run vs H Q E h⟩
  exact (pss_cons (ps_asg (pe_cal c_law_body_of hr rfl (pa_cons (pv 0) (pa_cons (pv 1) pa_nil))) (pg_tup rfl (pgs_cons (pg_name (i := 2) sc_law_ways.nd rfl (by first | exact Or.inl rfl | exact Or.inr rfl)) (pgs_cons (pg_name (i := 3) sc_law_ways.nd rfl (by first | exact Or.inl rfl | exact Or.inr rfl)) pgs_nil))))
  (pss_cons (ps_set (i := 4) sc_law_ways.nd rfl (Or.inl rfl) pe_dnewKN)
  (pss_cons (ps_for PassesOwn.never rfl (pi_range1 (by rfl) T.n_range (pa_cons (pe_callB call_lenG (by rfl) T.n_len (by decide +kernel) (pa_cons (pv 2) pa_nil)) pa_nil)) (pg_name (i := 5) sc_law_ways.nd rfl (by first | exact Or.inl rfl | exact Or.inr rfl)) (pss_one (ps_asg (pe_tupN (pa_cons pe_str (pa_cons (pv 5) pa_nil))) (pg_sub (pv 4) (pe_ixG (hu_of hr) (pv 2) (pv 5) (fun _ _ => rfl)) (set_any (hu_of hr))))))
  (pss_cons (ps_set (i := 6) sc_law_ways.nd rfl (Or.inl rfl) pe_int)
  (pss_cons (ps_set (i := 7) sc_law_ways.nd rfl (Or.inl rfl) (pe_lstN (pa_cons (pv 3) pa_nil)))
  (pss_cons (ps_while PassesOwn.never (pt_cmpR (op_neG (hu2_of hr)) (pv 7) (pe_lstN pa_nil) (nomark _)) (pss_cons (ps_set (i := 8) sc_law_ways.nd rfl (Or.inl rfl) (pe_bm PySem.F.plainAttrs_list PySem.F.slot_list_pop PySem.F.type_list_pop mt_popA (pv 7) (pa_cons pe_int pa_nil)))
  (pss_cons (ps_if (pt_cmpR (op_eqG (hu2_of hr)) (pe_ixG (hu_of hr) (pv 8) pe_int (fun _ _ => rfl)) pe_str (nomark _)) (pss_one (ps_for PassesOwn.never rfl (pi_seq (pe_ixG (hu_of hr) (pv 8) pe_int (fun _ _ => rfl))) (pg_tup rfl (pgs_cons (pg_name (i := 9) sc_law_ways.nd rfl (by first | exact Or.inl rfl | exact Or.inr rfl)) (pgs_cons (pg_name (i := 10) sc_law_ways.nd rfl (by first | exact Or.inl rfl | exact Or.inr rfl)) pgs_nil))) (pss_cons (ps_asg (pe_tupN (pa_cons pe_str (pa_cons (pv 6) pa_nil))) (pg_sub (pv 4) (pv 9) (set_any (hu_of hr))))
  (pss_one (ps_set (i := 6) sc_law_ways.nd rfl (Or.inl rfl) (pe_op op_addG (pv 6) pe_int)))))) pss_nil)
  (pss_one (ps_set (i := 7) sc_law_ways.nd rfl (Or.inl rfl) (pe_op op_addG (pe_cal c_law_all_within hr rfl (pa_cons (pv 8) pa_nil)) (pv 7)))))))
  (pss_one (ps_ret (pv 4)))))))))
abbrev st_law_opened : Stmt := topS 43
theorem sc_law_opened : FnScope ["_law_part_here", "_law_ways_here", "_law_rows", "_law_name", "_law_one"] ["_law_part_here", "_law_ways_here"] (defScope st_law_opened) := ⟨rfl, rfl, rfl, by decide +kernel, rfl, by decide +kernel, by decide +kernel⟩
theorem mk_law_opened {P : Program} {w : World} {K : PySem.W.Frag} {mg : Str → Option Value} {base : Heap} (T : TX w K mg) {j : Nat} {sp : Sp} {s_law_built : Sp} (c_law_built : Cal P w K mg base j "_law_built" s_law_built)
    (pure_ : PureOk 2 sp (t_law_opened K w s_law_built) 5) : Cal P w K mg base (j + 1) "_law_opened" sp := by
  obtain ⟨fd, F⟩ := T.d_law_opened
  refine cal_mk F T.f_law_opened sc_law_opened (F.bindsN fun _ _ _ _ _ _ us hl => match us, hl with | [_, _], _ => rfl) pure_.len fun cdv A outer s H vs Q E hr h => ?_
  refine ⟨t_law_opened K w s_law_built, PSs.nox ?_, pure_.run vs H Q E h⟩
  exact (pss_cons (ps_set (i := 2) sc_law_opened.nd rfl (Or.inl rfl) (pe_lstN (pa_cons (pe_tupN (pa_cons pe_str (pa_cons (pe_ixG (hu_of hr) (pe_ixG (hu_of hr) (pv 1) (pe_ixG (hu_of hr) (pe_ixG (hu_of hr) (pe_ixG (hu_of hr) (pv 0) pe_int (fun _ _ => rfl)) pe_int (fun _ _ => rfl)) pe_int (fun _ _ => rfl)) (fun _ _ => rfl)) pe_int (fun _ _ => rfl)) (pa_cons (pe_callB call_lenG (by rfl) T.n_len (by decide +kernel) (pa_cons (pe_ixG (hu_of hr) (pv 0) pe_int (fun _ _ => rfl)) pa_nil)) pa_nil)))) pa_nil)))
  (pss_cons (ps_for PassesOwn.never rfl (pi_seq (pe_ixG (hu_of hr) (pv 0) pe_int (fun _ _ => rfl))) (pg_tup rfl (pgs_cons (pg_name (i := 3) sc_law_opened.nd rfl (by first | exact Or.inl rfl | exact Or.inr rfl)) (pgs_cons (pg_name (i := 4) sc_law_opened.nd rfl (by first | exact Or.inl rfl | exact Or.inr rfl)) pgs_nil))) (pss_one (ps_set (i := 2) sc_law_opened.nd rfl (Or.inl rfl) (pe_op op_addG (pe_op op_addG (pv 2) (pe_cal c_law_built hr rfl (pa_cons (pv 4) (pa_cons (pv 1) pa_nil)))) (pe_lstN (pa_cons (pe_tupN (pa_cons pe_str (pa_cons (pe_ixG (hu_of hr) (pe_ixG (hu_of hr) (pv 1) (pv 3) (fun _ _ => rfl)) pe_int (fun _ _ => rfl)) pa_nil))) pa_nil))))))
  (pss_one (ps_ret (pv 2)))))
abbrev st_law_built : Stmt := topS 44
theorem sc_law_built : FnScope ["_law_part_here", "_law_ways_here", "_law_rows", "_law_one"] ["_law_part_here", "_law_ways_here"] (defScope st_law_built) := ⟨rfl, rfl, rfl, by decide +kernel, rfl, by decide +kernel, by decide +kernel⟩
theorem mk_law_built {P : Program} {w : World} {K : PySem.W.Frag} {mg : Str → Option Value} {base : Heap} (T : TX w K mg) {j : Nat} {sp : Sp} {s_law_opened s_law_built : Sp} (c_law_opened : Cal P w K mg base j "_law_opened" s_law_opened) (c_law_built : Cal P w K mg base j "_law_built" s_law_built)
    (pure_ : PureOk 2 sp (t_law_built K w s_law_opened s_law_built) 4) : Cal P w K mg base (j + 1) "_law_built" sp := by
  obtain ⟨fd, F⟩ := T.d_law_built
  refine cal_mk F T.f_law_built sc_law_built (F.bindsN fun _ _ _ _ _ _ us hl => match us, hl with | [_, _], _ => rfl) pure_.len fun cdv A outer s H vs Q E hr h => ?_
  refine ⟨t_law_built K w s_law_opened s_law_built, PSs.nox ?_, pure_.run vs H Q E h⟩
  exact (pss_cons (ps_if (pt_cmpR (op_eqG (hu2_of hr)) (pe_ixG (hu_of hr) (pv 0) pe_int (fun _ _ => rfl)) pe_str (nomark _)) (pss_one (ps_ret (pe_lstN (pa_cons (pe_ixG (hu_of hr) (pv 1) (pe_ixG (hu_of hr) (pv 0) pe_int (fun _ _ => rfl)) (fun _ _ => rfl)) pa_nil)))) pss_nil)
  (pss_cons (ps_if (pt_cmpR (op_inG (hu_of hr)) (pe_ixG (hu_of hr) (pv 0) pe_int (fun _ _ => rfl)) (pe_tupN (pa_cons pe_str (pa_cons pe_str pa_nil))) (by rfl)) (pss_one (ps_ret (pe_lstN (pa_cons (pv 0) pa_nil)))) pss_nil)
  (pss_cons (ps_if (pt_cmpR (op_eqG (hu2_of hr)) (pe_ixG (hu_of hr) (pv 0) pe_int (fun _ _ => rfl)) pe_str (nomark _)) (pss_one (ps_ret (pe_op op_addG (pe_cal c_law_opened hr rfl (pa_cons (pv 0) (pa_cons (pv 1) pa_nil))) (pe_cal c_law_built hr rfl (pa_cons (pe_ixG (hu_of hr) (pv 0) pe_int (fun _ _ => rfl)) (pa_cons (pv 1) pa_nil)))))) pss_nil)
  (pss_cons (ps_set (i := 2) sc_law_built.nd rfl (Or.inl rfl) (pe_lstN pa_nil))
  (pss_cons (ps_for PassesOwn.never rfl (pi_seq (pe_slice sl_any (pv 0) (po_some pe_int) po_none)) (pg_name (i := 3) sc_law_built.nd rfl (by first | exact Or.inl rfl | exact Or.inr rfl)) (pss_one (ps_set (i := 2) sc_law_built.nd rfl (Or.inl rfl) (pe_op op_addG (pv 2) (pe_cal c_law_built hr rfl (pa_cons (pv 3) (pa_cons (pv 1) pa_nil)))))))
  (pss_one (ps_ret (pe_op op_addG (pv 2) (pe_lstN (pa_cons (pe_tupN (pa_cons (pe_ixG (hu_of hr) (pv 0) pe_int (fun _ _ => rfl)) pa_nil)) pa_nil))))))))))
abbrev st_law_done : Stmt := topS 45
theorem sc_law_done : FnScope ["_law_pen_here", "_law_part_here", "_law_want", "_law_ways_here", "_law_after", "_law_rows", "_law_yes", "_law_no"] ["_law_pen_here", "_law_part_here", "_law_want", "_law_ways_here"] (defScope st_law_done) := ⟨rfl, rfl, rfl, by decide +kernel, rfl, by decide +kernel, by decide +kernel⟩
theorem mk_law_done {P : Program} {w : World} {K : PySem.W.Frag} {mg : Str → Option Value} {base : Heap} (T : TX w K mg) {j : Nat} {sp : Sp} {s_law_draw s_law_built s_law_opened s_law_done : Sp} (c_law_draw : Cal P w K mg base j "_law_draw" s_law_draw) (c_law_built : Cal P w K mg base j "_law_built" s_law_built) (c_law_opened : Cal P w K mg base j "_law_opened" s_law_opened) (c_law_done : Cal P w K mg base j "_law_done" s_law_done)
    (pure_ : PureOk 4 sp (t_law_done K w s_law_draw s_law_built s_law_opened s_law_done) 8) : Cal P w K mg base (j + 1) "_law_done" sp := by
  obtain ⟨fd, F⟩ := T.d_law_done
  refine cal_mk F T.f_law_done sc_law_done (F.bindsN fun _ _ _ _ _ _ us hl => match us, hl with | [_, _, _, _], _ => rfl) pure_.len fun cdv A outer s H vs Q E hr h => ?_
  refine ⟨t_law_done K w s_law_draw s_law_built s_law_opened s_law_done, PSs.nox ?_, pure_.run vs H Q E h⟩
  exact (pss_cons (ps_set (i := 4) sc_law_done.nd rfl (Or.inl rfl) (pe_slice sl_any (pe_lstN (pa_cons (pe_tupN (pa_cons pe_str (pa_cons (pv 2) pa_nil))) pa_nil)) po_none (po_some (pe_callB call_lenG (by rfl) T.n_len (by decide +kernel) (pa_cons (pv 2) pa_nil)))))
  (pss_cons (ps_if (PW.pt (pw_or (pt_cmpR (op_inG (hu_of hr)) (pe_ixG (hu_of hr) (pv 1) pe_int (fun _ _ => rfl)) (pe_tupN (pa_cons pe_str (pa_cons pe_str (pa_cons pe_str (pa_cons pe_str (pa_cons pe_str pa_nil)))))) (by rfl)) (pw_or1 (PW.pt (pw_and (pt_cmpR (op_neG (hu2_of hr)) (pv 0) (pe_lstN pa_nil) (nomark _)) (pw_and1 (pt_cmpR (op_eqG (hu2_of hr)) (pe_cal c_law_draw hr rfl (pa_cons (pv 0) (pa_cons pe_int pa_nil))) pe_int (nomark _)))))))) (pss_one (ps_ret (pe_op op_addG (pe_cal c_law_built hr rfl (pa_cons (pv 1) (pa_cons (pv 3) pa_nil))) (pv 4)))) pss_nil)
  (pss_cons (ps_if (pt_cmpR (op_eqG (hu2_of hr)) (pe_ixG (hu_of hr) (pv 1) pe_int (fun _ _ => rfl)) pe_str (nomark _)) (pss_one (ps_ret (pe_op op_addG (pe_cal c_law_opened hr rfl (pa_cons (pv 1) (pa_cons (pv 3) pa_nil))) (pe_cal c_law_done hr rfl (pa_cons (pv 0) (pa_cons (pe_ixG (hu_of hr) (pv 1) pe_int (fun _ _ => rfl)) (pa_cons (pv 2) (pa_cons (pv 3) pa_nil)))))))) pss_nil)
  (pss_cons (ps_if (pt_cmpR (op_inG (hu_of hr)) (pe_ixG (hu_of hr) (pv 1) pe_int (fun _ _ => rfl)) (pe_tupN (pa_cons pe_str (pa_cons pe_str pa_nil))) (by rfl)) (pss_one (ps_ret (pe_op op_addG (pe_op op_addG (pe_cal c_law_done hr rfl (pa_cons (pv 0) (pa_cons (pe_ixG (hu_of hr) (pv 1) pe_int (fun _ _ => rfl)) (pa_cons pe_str (pa_cons (pv 3) pa_nil))))) (pe_lstN (pa_cons (pe_tupN (pa_cons pe_str (pa_cons (pe_ixG (hu_of hr) (pv 1) pe_int (fun _ _ => rfl)) pa_nil))) pa_nil))) (pv 4)))) pss_nil)
  (pss_cons (ps_set (i := 5) sc_law_done.nd rfl (Or.inl rfl) (pe_cal c_law_done hr rfl (pa_cons (pv 0) (pa_cons (pe_ixG (hu_of hr) (pv 1) pe_int (fun _ _ => rfl)) (pa_cons pe_str (pa_cons (pv 3) pa_nil))))))
  (pss_cons (ps_if (pt_cmpR (op_eqG (hu2_of hr)) (pe_ixG (hu_of hr) (pv 1) pe_int (fun _ _ => rfl)) pe_str (nomark _)) (pss_cons (ps_par (i := 6) (j := 7) (by rfl) sc_law_done.nd rfl rfl (by decide) rfl rfl (pa_cons (pe_cal c_law_done hr rfl (pa_cons (pv 0) (pa_cons (pe_ixG (hu_of hr) (pv 1) pe_int (fun _ _ => rfl)) (pa_cons (pv 2) (pa_cons (pv 3) pa_nil))))) (pa_cons (pe_cal c_law_done hr rfl (pa_cons (pv 0) (pa_cons (pe_ixG (hu_of hr) (pv 1) pe_int (fun _ _ => rfl)) (pa_cons (pv 2) (pa_cons (pv 3) pa_nil))))) pa_nil)) (by rfl))
  (pss_one (ps_ret (pe_op op_addG (pv 5) (pe_lstN (pa_cons (pe_tupN (pa_cons pe_str (pa_cons (pe_callTy call_tupleG (by rfl) T.n_tuple (by decide +kernel) (pa_cons (pv 6) pa_nil)) (pa_cons (pe_callTy call_tupleG (by rfl) T.n_tuple (by decide +kernel) (pa_cons (pv 7) pa_nil)) pa_nil)))) pa_nil)))))) pss_nil)
  (pss_cons (ps_set (i := 5) sc_law_done.nd rfl (Or.inl rfl) (pe_op op_addG (pe_op op_addG (pv 5) (pe_cal c_law_done hr rfl (pa_cons (pv 0) (pa_cons (pe_ixG (hu_of hr) (pv 1) pe_int (fun _ _ => rfl)) (pa_cons pe_str (pa_cons (pv 3) pa_nil)))))) (pe_lstN (pa_cons (pe_tupN (pa_cons pe_str (pa_cons (pe_ixG (hu_of hr) (pv 1) pe_int (fun _ _ => rfl)) pa_nil))) pa_nil))))
  (pss_one (ps_ret (pe_op op_addG (pv 5) (pe_slice sl_any (pe_lstN (pa_cons (pe_tupN (pa_cons pe_str (pa_cons pe_str pa_nil))) pa_nil)) po_none (po_some (pe_callTy call_int1 (by rfl) T.n_int (by decide +kernel) (pa_cons (pe_cmpR (op_eqG (hu2_of hr)) (pv 2) pe_str (nomark _)) pa_nil))))))))))))))
abbrev st_law_functions : Stmt := topS 46
theorem sc_law_functions : FnScope ["_law_program_here", "_law_f"] ["_law_program_here"] (defScope st_law_functions) := ⟨rfl, rfl, rfl, by decide +kernel, rfl, by decide +kernel, by decide +kernel⟩
theorem mk_law_functions {P : Program} {w : World} {K : PySem.W.Frag} {mg : Str → Option Value} {base : Heap} (T : TX w K mg) {j : Nat} {sp : Sp}
    (pure_ : PureOk 1 sp (t_law_functions K w ) 2) : Cal P w K mg base (j + 1) "_law_functions" sp := by
  obtain ⟨fd, F⟩ := T.d_law_functions
  refine cal_mk F T.f_law_functions sc_law_functions (F.bindsN fun _ _ _ _ _ _ us hl => match us, hl with | [_], _ => rfl) pure_.len fun cdv A outer s H vs Q E hr h => ?_
  refine ⟨t_law_functions K w , PSs.nox ?_, pure_.run vs H Q E h⟩
  exact (pss_one (ps_ret (pe_op op_addG (pe_lc (own := [("_law_f", 1)]) (g := (gName 1)) (tt := tYes) rfl sc_law_functions.nd (pi_seq (pe_ixG (hu_of hr) (pv 0) pe_int (fun _ _ => rfl))) (blkOk_by (by kernel_rfl)) (fun _ _ _ _ _ => (pg_name (i := 1) sc_law_functions.nd rfl (by first | exact Or.inl rfl | exact Or.inr rfl))) (fun _ _ _ _ _ => pts_nil) (fun _ _ _ _ _ => (pe_ixG (hu_of hr) (pv 1) pe_int (fun _ _ => rfl)))) (pe_lstN (pa_cons pe_str pa_nil)))))
abbrev st_law_same : Stmt := topS 47
theorem sc_law_same : FnScope ["_law_one", "_law_other_here"] ["_law_one", "_law_other_here"] (defScope st_law_same) := ⟨rfl, rfl, rfl, by decide +kernel, rfl, by decide +kernel, by decide +kernel⟩
theorem mk_law_same {P : Program} {w : World} {K : PySem.W.Frag} {mg : Str → Option Value} {base : Heap} (T : TX w K mg) {j : Nat} {sp : Sp}
    (pure_ : PureOk 2 sp (t_law_same K w ) 2) : CalG P w K mg base (j + 1) "_law_same" sp := by
  obtain ⟨fd, F⟩ := T.d_law_same
  refine calG_mk F T.f_law_same sc_law_same (F.bindsN fun _ _ _ _ _ _ us hl => match us, hl with | [_, _], _ => rfl) pure_.len fun cdv A outer s H vs Q E hr hgd h => ?_
  refine ⟨t_law_same K w , PSs.nox ?_, pure_.run vs H Q E h⟩
  exact (pss_one (ps_ret (pe_cmpR (op_eqG (hu2_of hr)) (pe_callB (cr_repr hgd (hu2_of hr)) (by rfl) T.n_repr (by decide +kernel) (pa_cons (pv 0) pa_nil)) (pe_callB (cr_repr hgd (hu2_of hr)) (by rfl) T.n_repr (by decide +kernel) (pa_cons (pv 1) pa_nil)) (nomark _))))
abbrev st_law_met : Stmt := topS 48
theorem sc_law_met : FnScope ["_law_rows", "_law_at", "_law_due", "_law_again"] ["_law_rows", "_law_at", "_law_due"] (defScope st_law_met) := ⟨rfl, rfl, rfl, by decide +kernel, rfl, by decide +kernel, by decide +kernel⟩
theorem mk_law_met {P : Program} {w : World} {K : PySem.W.Frag} {mg : Str → Option Value} {base : Heap} (T : TX w K mg) {j : Nat} {sp : Sp} {s_law_same : Sp} (c_law_same : CalG P w K mg base j "_law_same" s_law_same)
    (pure_ : PureOk 3 sp (t_law_met K w s_law_same) 4) : CalG P w K mg base (j + 1) "_law_met" sp := by
  obtain ⟨fd, F⟩ := T.d_law_met
  refine calG_mk F T.f_law_met sc_law_met (F.bindsN fun _ _ _ _ _ _ us hl => match us, hl with | [_, _, _], _ => rfl) pure_.len fun cdv A outer s H vs Q E hr hgd h => ?_
  refine ⟨t_law_met K w s_law_same, PSs.nox ?_, pure_.run vs H Q E h⟩
  exact (pss_one (ps_ret (pe_lc (own := [("_law_again", 3)]) (g := (gName 3)) (tt := (tTru K (tCall s_law_same [] E0 (tCons (tCB (rListG K) (tCons (tSl (rSlG K) (tVar 0) (tPart (tVar 1)) (tPart (tOp (rAddG K) (tVar 1) (tCB (rLenG K) (tCons (tVar 2) tNil))))) tNil)) (tCons (tVar 2) tNil))))) rfl sc_law_met.nd (pi_seq (pe_lstN (pa_cons pe_int pa_nil))) (blkOk_by (by kernel_rfl)) (fun _ _ _ _ _ => (pg_name (i := 3) sc_law_met.nd rfl (by first | exact Or.inl rfl | exact Or.inr rfl))) (fun _ _ _ _ _ => (pts_one (pt_tru (pe_calG c_law_same hr hgd rfl (pa_cons (pe_callTy (call_listG rfl) (by rfl) T.n_list (by decide +kernel) (pa_cons (pe_slice sl_any (pv 0) (po_some (pv 1)) (po_some (pe_op op_addG (pv 1) (pe_callB call_lenG (by rfl) T.n_len (by decide +kernel) (pa_cons (pv 2) pa_nil))))) pa_nil)) (pa_cons (pv 2) pa_nil))) (by intro _; rfl)))) (fun _ _ _ _ _ => (pe_op op_addG (pv 1) (pe_callB call_lenG (by rfl) T.n_len (by decide +kernel) (pa_cons (pv 2) pa_nil)))))))
abbrev st_law_turned : Stmt := topS 49
theorem sc_law_turned : FnScope ["_law_steps", "_law_part_here", "_law_want", "_law_ways_here", "_law_rows", "_law_one"] ["_law_steps", "_law_part_here", "_law_want", "_law_ways_here"] (defScope st_law_turned) := ⟨rfl, rfl, rfl, by decide +kernel, rfl, by decide +kernel, by decide +kernel⟩
theorem mk_law_turned {P : Program} {w : World} {K : PySem.W.Frag} {mg : Str → Option Value} {base : Heap} (T : TX w K mg) {j : Nat} {sp : Sp} {s_law_same s_law_ends : Sp} (c_law_same : CalG P w K mg base j "_law_same" s_law_same) (c_law_ends : CalG P w K mg base j "_law_ends" s_law_ends)
    (pure_ : PureOk 4 sp (t_law_turned K w s_law_same s_law_ends) 6) : CalG P w K mg base (j + 1) "_law_turned" sp := by
  obtain ⟨fd, F⟩ := T.d_law_turned
  refine calG_mk F T.f_law_turned sc_law_turned (F.bindsN fun _ _ _ _ _ _ us hl => match us, hl with | [_, _, _, _], _ => rfl) pure_.len fun cdv A outer s H vs Q E hr hgd h => ?_
  refine ⟨t_law_turned K w s_law_same s_law_ends, PSs.nox ?_, pure_.run vs H Q E h⟩
  exact (pss_cons (ps_if (PW.pt (pw_or (pt_cmpR (op_eqT (hu2_of hr)) (pv 0) (pe_tupN pa_nil) (nomark _)) (pw_or (pt_not (pt_tru (pe_callB call_isiG (by rfl) T.n_isinstance (by decide +kernel) (pa_cons (pe_ixG (hu_of hr) (pv 0) pe_int (fun _ _ => rfl)) (pa_cons (pe_bltn (v := .ty "tuple") rfl T.n_tuple (by decide +kernel) rfl) pa_nil))) (by intro _; rfl))) (pw_or (pt_cmpR (op_neG (hu2_of hr)) (pe_callB call_lenG (by rfl) T.n_len (by decide +kernel) (pa_cons (pe_ixG (hu_of hr) (pv 0) pe_int (fun _ _ => rfl)) pa_nil)) pe_int (nomark _)) (pw_or1 (pt_not (pt_tru (pe_calG c_law_same hr hgd rfl (pa_cons (pe_ixG (hu_of hr) (pe_ixG (hu_of hr) (pv 0) pe_int (fun _ _ => rfl)) pe_int (fun _ _ => rfl)) (pa_cons pe_str pa_nil))) (by intro _; rfl)))))))) (pss_one (ps_ret pe_bl)) pss_nil)
  (pss_cons (ps_for PassesOwn.never rfl (pi_seq (pe_lstN (pa_cons (pe_tupN (pa_cons (pe_ixG (hu_of hr) (pe_ixG (hu_of hr) (pv 0) pe_int (fun _ _ => rfl)) pe_int (fun _ _ => rfl)) (pa_cons (pe_ixG (hu_of hr) (pv 1) pe_int (fun _ _ => rfl)) pa_nil))) (pa_cons (pe_tupN (pa_cons (pe_ixG (hu_of hr) (pe_ixG (hu_of hr) (pv 0) pe_int (fun _ _ => rfl)) pe_int (fun _ _ => rfl)) (pa_cons (pe_ixG (hu_of hr) (pv 1) pe_int (fun _ _ => rfl)) pa_nil))) pa_nil)))) (pg_tup rfl (pgs_cons (pg_name (i := 4) sc_law_turned.nd rfl (by first | exact Or.inl rfl | exact Or.inr rfl)) (pgs_cons (pg_name (i := 5) sc_law_turned.nd rfl (by first | exact Or.inl rfl | exact Or.inr rfl)) pgs_nil))) (pss_one (ps_if (PW.pt (pw_or (pt_not (pt_tru (pe_callB call_isiG (by rfl) T.n_isinstance (by decide +kernel) (pa_cons (pv 4) (pa_cons (pe_bltn (v := .ty "tuple") rfl T.n_tuple (by decide +kernel) rfl) pa_nil))) (by intro _; rfl))) (pw_or1 (pt_cmpR (op_notInG (hu_of hr)) (pe_callB call_lenG (by rfl) T.n_len (by decide +kernel) (pa_cons (pv 4) pa_nil)) (pe_calG c_law_ends hr hgd rfl (pa_cons (pv 4) (pa_cons pe_int (pa_cons (pv 5) (pa_cons (pv 2) (pa_cons (pv 3) pa_nil)))))) (by rfl))))) (pss_one (ps_ret pe_bl)) pss_nil)))
  (pss_one (ps_ret pe_bl))))
abbrev st_law_ends : Stmt := topS 50
theorem sc_law_ends : FnScope ["_law_rows", "_law_at", "_law_part_here", "_law_want", "_law_ways_here", "_law_after", "_law_ends_here", "_law_end", "_law_due", "_law_amid"] ["_law_rows", "_law_at", "_law_part_here", "_law_want", "_law_ways_here"] (defScope st_law_ends) := ⟨rfl, rfl, rfl, by decide +kernel, rfl, by decide +kernel, by decide +kernel⟩
theorem mk_law_ends {P : Program} {w : World} {K : PySem.W.Frag} {mg : Str → Option Value} {base : Heap} (T : TX w K mg) {j : Nat} {sp : Sp} {s_law_met s_law_built s_law_opened s_law_ends s_law_turned : Sp} (c_law_met : CalG P w K mg base j "_law_met" s_law_met) (c_law_built : Cal P w K mg base j "_law_built" s_law_built) (c_law_opened : Cal P w K mg base j "_law_opened" s_law_opened) (c_law_ends : CalG P w K mg base j "_law_ends" s_law_ends) (c_law_turned : CalG P w K mg base j "_law_turned" s_law_turned)
    (pure_ : PureOk 5 sp (t_law_ends K w s_law_met s_law_built s_law_opened s_law_ends s_law_turned) 10) : CalG P w K mg base (j + 1) "_law_ends" sp := by
  obtain ⟨fd, F⟩ := T.d_law_ends
  refine calG_mk F T.f_law_ends sc_law_ends (F.bindsN fun _ _ _ _ _ _ us hl => match us, hl with | [_, _, _, _, _], _ => rfl) pure_.len fun cdv A outer s H vs Q E hr hgd h => ?_
  refine ⟨t_law_ends K w s_law_met s_law_built s_law_opened s_law_ends s_law_turned, PSs.nox ?_, pure_.run vs H Q E h⟩
  exact (pss_cons (ps_set (i := 5) sc_law_ends.nd rfl (Or.inl rfl) (pe_slice sl_any (pe_lstN (pa_cons (pe_tupN (pa_cons pe_str (pa_cons (pv 3) pa_nil))) pa_nil)) po_none (po_some (pe_callB call_lenG (by rfl) T.n_len (by decide +kernel) (pa_cons (pv 3) pa_nil)))))
  (pss_cons (ps_set (i := 6) sc_law_ends.nd rfl (Or.inl rfl) (pe_calG c_law_met hr hgd rfl (pa_cons (pv 0) (pa_cons (pv 1) (pa_cons (pe_op op_addG (pe_cal c_law_built hr rfl (pa_cons (pv 2) (pa_cons (pv 4) pa_nil))) (pv 5)) pa_nil)))))
  (pss_cons (ps_if (pt_cmpR (op_eqG (hu2_of hr)) (pe_ixG (hu_of hr) (pv 2) pe_int (fun _ _ => rfl)) pe_str (nomark _)) (pss_one (ps_for PassesOwn.never rfl (pi_seq (pe_calG c_law_met hr hgd rfl (pa_cons (pv 0) (pa_cons (pv 1) (pa_cons (pe_cal c_law_opened hr rfl (pa_cons (pv 2) (pa_cons (pv 4) pa_nil))) pa_nil))))) (pg_name (i := 7) sc_law_ends.nd rfl (by first | exact Or.inl rfl | exact Or.inr rfl)) (pss_one (ps_set (i := 6) sc_law_ends.nd rfl (Or.inl rfl) (pe_op op_addG (pv 6) (pe_calG c_law_ends hr hgd rfl (pa_cons (pv 0) (pa_cons (pv 7) (pa_cons (pe_ixG (hu_of hr) (pv 2) pe_int (fun _ _ => rfl)) (pa_cons (pv 3) (pa_cons (pv 4) pa_nil))))))))))) pss_nil)
  (pss_cons (ps_if (pt_cmpR (op_inG (hu_of hr)) (pe_ixG (hu_of hr) (pv 2) pe_int (fun _ _ => rfl)) (pe_tupN (pa_cons pe_str (pa_cons pe_str pa_nil))) (by rfl)) (pss_one (ps_for PassesOwn.never rfl (pi_seq (pe_calG c_law_ends hr hgd rfl (pa_cons (pv 0) (pa_cons (pv 1) (pa_cons (pe_ixG (hu_of hr) (pv 2) pe_int (fun _ _ => rfl)) (pa_cons pe_str (pa_cons (pv 4) pa_nil))))))) (pg_name (i := 7) sc_law_ends.nd rfl (by first | exact Or.inl rfl | exact Or.inr rfl)) (pss_one (ps_set (i := 6) sc_law_ends.nd rfl (Or.inl rfl) (pe_op op_addG (pv 6) (pe_calG c_law_met hr hgd rfl (pa_cons (pv 0) (pa_cons (pv 7) (pa_cons (pe_op op_addG (pe_lstN (pa_cons (pe_tupN (pa_cons pe_str (pa_cons (pe_ixG (hu_of hr) (pv 2) pe_int (fun _ _ => rfl)) pa_nil))) pa_nil)) (pv 5)) pa_nil))))))))) pss_nil)
  (pss_cons (ps_if (pt_cmpR (op_eqG (hu2_of hr)) (pe_ixG (hu_of hr) (pv 2) pe_int (fun _ _ => rfl)) pe_str (nomark _)) (pss_one (ps_for PassesOwn.never rfl (pi_seq (pe_calG c_law_ends hr hgd rfl (pa_cons (pv 0) (pa_cons (pv 1) (pa_cons (pe_ixG (hu_of hr) (pv 2) pe_int (fun _ _ => rfl)) (pa_cons pe_str (pa_cons (pv 4) pa_nil))))))) (pg_name (i := 7) sc_law_ends.nd rfl (by first | exact Or.inl rfl | exact Or.inr rfl)) (pss_one (ps_set (i := 6) sc_law_ends.nd rfl (Or.inl rfl) (pe_op op_addG (pv 6) (pe_slice sl_any (pe_lstN (pa_cons (pe_op op_addG (pv 7) pe_int) pa_nil)) po_none (po_some (pe_callTy call_int1 (by rfl) T.n_int (by decide +kernel) (pa_cons (pe_calG c_law_turned hr hgd rfl (pa_cons (pe_slice sl_any (pv 0) (po_some (pv 7)) (po_some (pe_op op_addG (pv 7) pe_int))) (pa_cons (pv 2) (pa_cons (pv 3) (pa_cons (pv 4) pa_nil))))) pa_nil))))))))) pss_nil)
  (pss_cons (ps_if (pt_cmpR (op_inG (hu_of hr)) (pe_ixG (hu_of hr) (pv 2) pe_int (fun _ _ => rfl)) (pe_tupN (pa_cons pe_str (pa_cons pe_str (pa_cons pe_str (pa_cons pe_str pa_nil))))) (by rfl)) (pss_cons (ps_set (i := 8) sc_law_ends.nd rfl (Or.inl rfl) (pe_op op_addG (pe_lstN (pa_cons (pe_tupN (pa_cons pe_str (pa_cons (pe_ixG (hu_of hr) (pv 2) pe_int (fun _ _ => rfl)) pa_nil))) pa_nil)) (pe_slice sl_any (pe_lstN (pa_cons (pe_tupN (pa_cons pe_str (pa_cons pe_str pa_nil))) pa_nil)) po_none (po_some (pe_callTy call_int1 (by rfl) T.n_int (by decide +kernel) (pa_cons (pe_cmpR (op_eqG (hu2_of hr)) (pv 3) pe_str (nomark _)) pa_nil))))))
  (pss_one (ps_for PassesOwn.never rfl (pi_seq (pe_calG c_law_ends hr hgd rfl (pa_cons (pv 0) (pa_cons (pv 1) (pa_cons (pe_ixG (hu_of hr) (pv 2) pe_int (fun _ _ => rfl)) (pa_cons pe_str (pa_cons (pv 4) pa_nil))))))) (pg_name (i := 9) sc_law_ends.nd rfl (by first | exact Or.inl rfl | exact Or.inr rfl)) (pss_one (ps_for PassesOwn.never rfl (pi_seq (pe_calG c_law_ends hr hgd rfl (pa_cons (pv 0) (pa_cons (pv 9) (pa_cons (pe_ixG (hu_of hr) (pv 2) pe_int (fun _ _ => rfl)) (pa_cons pe_str (pa_cons (pv 4) pa_nil))))))) (pg_name (i := 7) sc_law_ends.nd rfl (by first | exact Or.inl rfl | exact Or.inr rfl)) (pss_one (ps_set (i := 6) sc_law_ends.nd rfl (Or.inl rfl) (pe_op op_addG (pv 6) (pe_calG c_law_met hr hgd rfl (pa_cons (pv 0) (pa_cons (pv 7) (pa_cons (pv 8) pa_nil)))))))))))) pss_nil)
  (pss_one (ps_ret (pe_callB (cr_sortSet rfl) (by rfl) T.n_sorted (by decide +kernel) (pa_cons (pe_callTy (cr_setLI rfl) (by rfl) T.n_set (by decide +kernel) (pa_cons (pv 6) pa_nil)) pa_nil))))))))))
abbrev st_law_let_by : Stmt := topS 51
theorem sc_law_let_by : FnScope ["_law_program_here", "_law_f", "_law_thing", "_law_body_here"] ["_law_program_here", "_law_f", "_law_thing"] (defScope st_law_let_by) := ⟨rfl, rfl, rfl, by decide +kernel, rfl, by decide +kernel, by decide +kernel⟩
theorem mk_law_let_by {P : Program} {w : World} {K : PySem.W.Frag} {mg : Str → Option Value} {base : Heap} (T : TX w K mg) {j : Nat} {sp : Sp} {s_law_same s_law_body_of s_law_ends s_law_ways : Sp} (c_law_same : CalG P w K mg base j "_law_same" s_law_same) (c_law_body_of : Cal P w K mg base j "_law_body_of" s_law_body_of) (c_law_ends : CalG P w K mg base j "_law_ends" s_law_ends) (c_law_ways : Cal P w K mg base j "_law_ways" s_law_ways)
    (pure_ : PureOk 3 sp (t_law_let_by K w s_law_same s_law_body_of s_law_ends s_law_ways) 4) : CalG P w K mg base (j + 1) "_law_let_by" sp := by
  obtain ⟨fd, F⟩ := T.d_law_let_by
  refine calG_mk F T.f_law_let_by sc_law_let_by (F.bindsN fun _ _ _ _ _ _ us hl => match us, hl with | [_, _, _], _ => rfl) pure_.len fun cdv A outer s H vs Q E hr hgd h => ?_
  refine ⟨t_law_let_by K w s_law_same s_law_body_of s_law_ends s_law_ways, PSs.nox ?_, pure_.run vs H Q E h⟩
  exact (pss_cons (ps_if (PW.pt (pw_or (pt_not (pt_tru (pe_callB call_isiG (by rfl) T.n_isinstance (by decide +kernel) (pa_cons (pv 2) (pa_cons (pe_bltn (v := .ty "tuple") rfl T.n_tuple (by decide +kernel) rfl) pa_nil))) (by intro _; rfl))) (pw_or (pt_cmpR (op_eqT (hu2_of hr)) (pv 2) (pe_tupN pa_nil) (nomark _)) (pw_or1 (pt_not (pt_tru (pe_calG c_law_same hr hgd rfl (pa_cons (pe_ixG (hu_of hr) (pv 2) (pe_un un_neg pe_int) (fun _ _ => rfl)) (pa_cons (pe_tupN (pa_cons pe_str pa_nil)) pa_nil))) (by intro _; rfl))))))) (pss_one (ps_ret pe_bl)) pss_nil)
  (pss_cons (ps_set (i := 3) sc_law_let_by.nd rfl (Or.inl rfl) (pe_ixG (hu_of hr) (pe_cal c_law_body_of hr rfl (pa_cons (pv 0) (pa_cons (pv 1) pa_nil))) pe_int (fun _ _ => rfl)))
  (pss_one (ps_ret (pe_cmpR (op_inG (hu_of hr)) (pe_op op_sub (pe_callB call_lenG (by rfl) T.n_len (by decide +kernel) (pa_cons (pv 2) pa_nil)) pe_int) (pe_calG c_law_ends hr hgd rfl (pa_cons (pe_slice sl_any (pv 2) po_none (po_some (pe_un un_neg pe_int))) (pa_cons pe_int (pa_cons (pv 3) (pa_cons pe_str (pa_cons (pe_cal c_law_ways hr rfl (pa_cons (pv 0) (pa_cons (pv 1) pa_nil))) pa_nil)))))) (by rfl))))))
abbrev st_law_other : Stmt := topS 52
theorem sc_law_other : FnScope ["_law_pen_here", "_law_thing"] ["_law_pen_here", "_law_thing"] (defScope st_law_other) := ⟨rfl, rfl, rfl, by decide +kernel, rfl, by decide +kernel, by decide +kernel⟩
theorem mk_law_other {P : Program} {w : World} {K : PySem.W.Frag} {mg : Str → Option Value} {base : Heap} (T : TX w K mg) {j : Nat} {sp : Sp} {s_law_draw : Sp} (c_law_draw : Cal P w K mg base j "_law_draw" s_law_draw)
    (pure_ : PureOk 2 sp (t_law_other K w s_law_draw) 2) : Cal P w K mg base (j + 1) "_law_other" sp := by
  obtain ⟨fd, F⟩ := T.d_law_other
  refine cal_mk F T.f_law_other sc_law_other (F.bindsN fun _ _ _ _ _ _ us hl => match us, hl with | [_, _], _ => rfl) pure_.len fun cdv A outer s H vs Q E hr h => ?_
  refine ⟨t_law_other K w s_law_draw, PSs.nox ?_, pure_.run vs H Q E h⟩
  exact (pss_cons (ps_if (pt_tru (pe_callB call_isiG (by rfl) T.n_isinstance (by decide +kernel) (pa_cons (pv 1) (pa_cons (pe_bltn (v := .ty "int") rfl T.n_int (by decide +kernel) rfl) pa_nil))) (by intro _; rfl)) (pss_one (ps_ret (pe_op op_addB (pv 1) (pe_ixG (hu_of hr) (pe_lstN (pa_cons pe_int (pa_cons (pe_un un_neg pe_int) (pa_cons pe_int (pa_cons pe_int pa_nil))))) (pe_cal c_law_draw hr rfl (pa_cons (pv 0) (pa_cons pe_int pa_nil))) (fun _ _ => rfl))))) pss_nil)
  (pss_cons (ps_if (pt_tru (pe_callB call_isiG (by rfl) T.n_isinstance (by decide +kernel) (pa_cons (pv 1) (pa_cons (pe_bltn (v := .ty "str") rfl T.n_str (by decide +kernel) rfl) pa_nil))) (by intro _; rfl)) (pss_one (ps_ret (pe_ixG (hu_of hr) (pe_splitG pe_str pe_str) (pe_cal c_law_draw hr rfl (pa_cons (pv 0) (pa_cons pe_int pa_nil))) (fun _ _ => rfl)))) pss_nil)
  (pss_cons (ps_if (pt_not (pt_tru (pe_callB call_isiG (by rfl) T.n_isinstance (by decide +kernel) (pa_cons (pv 1) (pa_cons (pe_bltn (v := .ty "tuple") rfl T.n_tuple (by decide +kernel) rfl) pa_nil))) (by intro _; rfl))) (pss_one (ps_ret pe_int)) pss_nil)
  (pss_one (ps_ret (pe_ixG (hu_of hr) (pe_lstN (pa_cons (pe_slice sl_any (pv 1) (po_some pe_int) po_none) (pa_cons (pe_slice sl_any (pv 1) po_none (po_some (pe_un un_neg pe_int))) (pa_cons (pe_op op_addG (pv 1) (pe_slice sl_any (pv 1) po_none (po_some pe_int))) (pa_cons (pe_tupN pa_nil) (pa_cons (pe_callTy (call_listG rfl) (by rfl) T.n_list (by decide +kernel) (pa_cons (pv 1) pa_nil)) pa_nil)))))) (pe_cal c_law_draw hr rfl (pa_cons (pv 0) (pa_cons pe_int pa_nil))) (fun _ _ => rfl)))))))
abbrev st_law_bent_step : Stmt := topS 53
theorem sc_law_bent_step : FnScope ["_law_pen_here", "_law_one_step", "_law_way", "_law_at", "_law_one", "_law_some"] ["_law_pen_here", "_law_one_step"] (defScope st_law_bent_step) := ⟨rfl, rfl, rfl, by decide +kernel, rfl, by decide +kernel, by decide +kernel⟩
theorem mk_law_bent_step {P : Program} {w : World} {K : PySem.W.Frag} {mg : Str → Option Value} {base : Heap} (T : TX w K mg) {j : Nat} {sp : Sp} {s_law_draw s_law_other : Sp} (c_law_draw : Cal P w K mg base j "_law_draw" s_law_draw) (c_law_other : Cal P w K mg base j "_law_other" s_law_other)
    (pure_ : PureOk 2 sp (t_law_bent_step K w s_law_draw s_law_other) 6) : Cal P w K mg base (j + 1) "_law_bent_step" sp := by
  obtain ⟨fd, F⟩ := T.d_law_bent_step
  refine cal_mk F T.f_law_bent_step sc_law_bent_step (F.bindsN fun _ _ _ _ _ _ us hl => match us, hl with | [_, _], _ => rfl) pure_.len fun cdv A outer s H vs Q E hr h => ?_
  refine ⟨t_law_bent_step K w s_law_draw s_law_other, PSs.nox ?_, pure_.run vs H Q E h⟩
  exact (pss_cons (ps_set (i := 2) sc_law_bent_step.nd rfl (Or.inl rfl) (pe_cal c_law_draw hr rfl (pa_cons (pv 0) (pa_cons pe_int pa_nil))))
  (pss_cons (ps_set (i := 3) sc_law_bent_step.nd rfl (Or.inl rfl) (pe_cal c_law_draw hr rfl (pa_cons (pv 0) (pa_cons (pe_callB call_lenG (by rfl) T.n_len (by decide +kernel) (pa_cons (pv 1) pa_nil)) pa_nil))))
  (pss_cons (ps_if (pt_cmpR (op_eqG (hu2_of hr)) (pv 2) pe_int (nomark _)) (pss_one (ps_ret (pe_callTy (call_listG rfl) (by rfl) T.n_list (by decide +kernel) (pa_cons (pv 1) pa_nil)))) pss_nil)
  (pss_cons (ps_if (pt_cmpR (op_eqG (hu2_of hr)) (pv 2) pe_int (nomark _)) (pss_one (ps_ret (pe_slice sl_any (pv 1) po_none (po_some (pe_un un_neg pe_int))))) pss_nil)
  (pss_cons (ps_if (pt_cmpR (op_eqG (hu2_of hr)) (pv 2) pe_int (nomark _)) (pss_one (ps_ret (pe_op op_addG (pv 1) (pe_tupN (pa_cons (pe_ixG (hu_of hr) (pe_lstN (pa_cons pe_int (pa_cons pe_str (pa_cons pe_non (pa_cons (pe_ixG (hu_of hr) (pv 1) (pe_un un_neg pe_int) (fun _ _ => rfl)) pa_nil))))) (pe_cal c_law_draw hr rfl (pa_cons (pv 0) (pa_cons pe_int pa_nil))) (fun _ _ => rfl)) pa_nil))))) pss_nil)
  (pss_cons (ps_if (pt_cmpR (op_eqG (hu2_of hr)) (pv 2) pe_int (nomark _)) (pss_one (ps_ret (pe_callTy call_tupleG (by rfl) T.n_tuple (by decide +kernel) (pa_cons (pe_lc (own := [("_law_one", 4)]) (g := (gName 4)) (tt := tYes) rfl sc_law_bent_step.nd (pi_seq (pv 1)) (blkOk_by (by kernel_rfl)) (fun _ _ _ _ _ => (pg_name (i := 4) sc_law_bent_step.nd rfl (by first | exact Or.inl rfl | exact Or.inr rfl))) (fun _ _ _ _ _ => pts_nil) (fun _ _ _ _ _ => (pe_ifExp (PW.pt (pw_and (pt_tru (pe_callB call_isiG (by rfl) T.n_isinstance (by decide +kernel) (pa_cons (pv 4) (pa_cons (pe_bltn (v := .ty "int") rfl T.n_int (by decide +kernel) rfl) pa_nil))) (by intro _; rfl)) (pw_and1 (pt_cmpR (op_inG (hu_of hr)) (pv 4) (pe_tupN (pa_cons pe_int (pa_cons pe_int pa_nil))) (by rfl))))) (pe_callTy call_bool1 (by rfl) T.n_bool (by decide +kernel) (pa_cons (pv 4) pa_nil)) (pv 4)))) pa_nil)))) pss_nil)
  (pss_cons (ps_if (pt_cmpR op_lt (pv 2) pe_int (nomark _)) (pss_one (ps_ret (pe_op op_addG (pe_op op_addG (pe_slice sl_any (pv 1) po_none (po_some (pv 3))) (pe_tupN (pa_cons (pe_cal c_law_other hr rfl (pa_cons (pv 0) (pa_cons (pe_ixG (hu_of hr) (pv 1) (pv 3) (fun _ _ => rfl)) pa_nil))) pa_nil))) (pe_slice sl_any (pv 1) (po_some (pe_op op_addG (pv 3) pe_int)) po_none)))) pss_nil)
  (pss_cons (ps_set (i := 5) sc_law_bent_step.nd rfl (Or.inl rfl) (pe_lstN (pa_cons (pe_tupN (pa_cons pe_str (pa_cons pe_str pa_nil))) (pa_cons (pe_tupN (pa_cons pe_str (pa_cons pe_str pa_nil))) (pa_cons (pe_tupN (pa_cons pe_str (pa_cons pe_str pa_nil))) (pa_cons (pe_tupN (pa_cons pe_str pa_nil)) (pa_cons (pe_tupN (pa_cons pe_str (pa_cons pe_int pa_nil))) (pa_cons (pe_tupN (pa_cons pe_str (pa_cons pe_int pa_nil))) (pa_cons (pe_tupN (pa_cons pe_str (pa_cons pe_int pa_nil))) pa_nil)))))))))
  (pss_cons (ps_set (i := 5) sc_law_bent_step.nd rfl (Or.inl rfl) (pe_op op_addG (pv 5) (pe_lstN (pa_cons (pe_tupN (pa_cons pe_str (pa_cons pe_int (pa_cons pe_int pa_nil)))) (pa_cons (pe_tupN (pa_cons pe_str (pa_cons pe_int pa_nil))) (pa_cons (pe_tupN (pa_cons pe_str (pa_cons pe_str pa_nil))) (pa_cons (pe_tupN (pa_cons pe_str (pa_cons pe_str pa_nil))) (pa_cons (pe_tupN (pa_cons pe_str pa_nil)) (pa_cons (pe_tupN (pa_cons pe_str pa_nil)) (pa_cons (pe_tupN (pa_cons pe_str pa_nil)) pa_nil))))))))))
  (pss_cons (ps_set (i := 5) sc_law_bent_step.nd rfl (Or.inl rfl) (pe_op op_addG (pv 5) (pe_lstN (pa_cons (pe_tupN (pa_cons pe_str (pa_cons (pe_tupN pa_nil) (pa_cons (pe_tupN pa_nil) pa_nil)))) (pa_cons pe_non (pa_cons pe_int (pa_cons pe_str (pa_cons (pe_tupN pa_nil) (pa_cons (pe_tupN (pa_cons pe_str (pa_cons pe_str pa_nil))) (pa_cons (pe_tupN (pa_cons pe_str pa_nil)) pa_nil))))))))))
  (pss_one (ps_ret (pe_ixG (hu_of hr) (pv 5) (pe_cal c_law_draw hr rfl (pa_cons (pv 0) (pa_cons (pe_callB call_lenG (by rfl) T.n_len (by decide +kernel) (pa_cons (pv 5) pa_nil)) pa_nil))) (fun _ _ => rfl))))))))))))))
abbrev st_law_bent : Stmt := topS 54
theorem sc_law_bent : FnScope ["_law_pen_here", "_law_rows", "_law_at", "_law_other_here", "_law_one_step", "_law_which", "_law_way", "_law_low", "_law_high"] ["_law_pen_here", "_law_rows"] (defScope st_law_bent) := ⟨rfl, rfl, rfl, by decide +kernel, rfl, by decide +kernel, by decide +kernel⟩
theorem mk_law_bent {P : Program} {w : World} {K : PySem.W.Frag} {mg : Str → Option Value} {base : Heap} (T : TX w K mg) {j : Nat} {sp : Sp} {s_law_draw s_law_bent s_law_bent_step : Sp} (c_law_draw : Cal P w K mg base j "_law_draw" s_law_draw) (c_law_bent : Cal P w K mg base j "_law_bent" s_law_bent) (c_law_bent_step : Cal P w K mg base j "_law_bent_step" s_law_bent_step)
    (pure_ : PureOk 2 sp (t_law_bent K w s_law_draw s_law_bent s_law_bent_step) 9) : Cal P w K mg base (j + 1) "_law_bent" sp := by
  obtain ⟨fd, F⟩ := T.d_law_bent
  refine cal_mk F T.f_law_bent sc_law_bent (F.bindsN fun _ _ _ _ _ _ us hl => match us, hl with | [_, _], _ => rfl) pure_.len fun cdv A outer s H vs Q E hr h => ?_
  refine ⟨t_law_bent K w s_law_draw s_law_bent s_law_bent_step, PSs.nox ?_, pure_.run vs H Q E h⟩
  exact (pss_cons (ps_set (i := 2) sc_law_bent.nd rfl (Or.inl rfl) (pe_cal c_law_draw hr rfl (pa_cons (pv 0) (pa_cons (pe_callB call_lenG (by rfl) T.n_len (by decide +kernel) (pa_cons (pv 1) pa_nil)) pa_nil))))
  (pss_cons (ps_set (i := 3) sc_law_bent.nd rfl (Or.inl rfl) (pe_cal c_law_draw hr rfl (pa_cons (pv 0) (pa_cons (pe_callB call_lenG (by rfl) T.n_len (by decide +kernel) (pa_cons (pv 1) pa_nil)) pa_nil))))
  (pss_cons (ps_set (i := 4) sc_law_bent.nd rfl (Or.inl rfl) (pe_ixG (hu_of hr) (pv 1) (pv 2) (fun _ _ => rfl)))
  (pss_cons (ps_if (PW.pt (pw_or (pt_not (pt_tru (pe_callB call_isiG (by rfl) T.n_isinstance (by decide +kernel) (pa_cons (pv 4) (pa_cons (pe_bltn (v := .ty "tuple") rfl T.n_tuple (by decide +kernel) rfl) pa_nil))) (by intro _; rfl))) (pw_or1 (pt_cmpR (op_eqT (hu2_of hr)) (pv 4) (pe_tupN pa_nil) (nomark _))))) (pss_one (ps_ret (pe_op op_addG (pe_slice sl_any (pv 1) po_none (po_some (pv 2))) (pe_slice sl_any (pv 1) (po_some (pe_op op_addG (pv 2) pe_int)) po_none)))) pss_nil)
  (pss_cons (ps_if (PW.pt (pw_and (pt_cmpR (op_eqG (hu2_of hr)) (pe_ixG (hu_of hr) (pv 4) pe_int (fun _ _ => rfl)) pe_str (nomark _)) (pw_and (pt_cmpR (op_eqG (hu2_of hr)) (pe_callB call_lenG (by rfl) T.n_len (by decide +kernel) (pa_cons (pv 4) pa_nil)) pe_int (nomark _)) (pw_and1 (pt_cmpR op_gt (pe_cal c_law_draw hr rfl (pa_cons (pv 0) (pa_cons pe_int pa_nil))) pe_int (nomark _)))))) (pss_cons (ps_set (i := 5) sc_law_bent.nd rfl (Or.inl rfl) (pe_op op_addG pe_int (pe_cal c_law_draw hr rfl (pa_cons (pv 0) (pa_cons pe_int pa_nil)))))
  (pss_one (ps_if (PW.pt (pw_and (pt_tru (pe_callB call_isiG (by rfl) T.n_isinstance (by decide +kernel) (pa_cons (pe_ixG (hu_of hr) (pv 4) (pv 5) (fun _ _ => rfl)) (pa_cons (pe_bltn (v := .ty "tuple") rfl T.n_tuple (by decide +kernel) rfl) pa_nil))) (by intro _; rfl)) (pw_and1 (pt_cmpR (op_neG (hu2_of hr)) (pe_ixG (hu_of hr) (pv 4) (pv 5) (fun _ _ => rfl)) (pe_tupN pa_nil) (nomark _))))) (pss_one (ps_ret (pe_op op_addG (pe_op op_addG (pe_slice sl_any (pv 1) po_none (po_some (pv 2))) (pe_tupN (pa_cons (pe_op op_addG (pe_op op_addG (pe_slice sl_any (pv 4) po_none (po_some (pv 5))) (pe_tupN (pa_cons (pe_cal c_law_bent hr rfl (pa_cons (pv 0) (pa_cons (pe_ixG (hu_of hr) (pv 4) (pv 5) (fun _ _ => rfl)) pa_nil))) pa_nil))) (pe_slice sl_any (pv 4) (po_some (pe_op op_addG (pv 5) pe_int)) po_none)) pa_nil))) (pe_slice sl_any (pv 1) (po_some (pe_op op_addG (pv 2) pe_int)) po_none)))) pss_nil))) pss_nil)
  (pss_cons (ps_set (i := 6) sc_law_bent.nd rfl (Or.inl rfl) (pe_cal c_law_draw hr rfl (pa_cons (pv 0) (pa_cons pe_int pa_nil))))
  (pss_cons (ps_if (pt_cmpR (op_eqG (hu2_of hr)) (pv 6) pe_int (nomark _)) (pss_one (ps_ret (pe_op op_addG (pe_slice sl_any (pv 1) po_none (po_some (pv 2))) (pe_slice sl_any (pv 1) (po_some (pe_op op_addG (pv 2) pe_int)) po_none)))) pss_nil)
  (pss_cons (ps_if (pt_cmpR (op_eqG (hu2_of hr)) (pv 6) pe_int (nomark _)) (pss_one (ps_ret (pe_op op_addG (pe_slice sl_any (pv 1) po_none (po_some (pe_op op_addG (pv 2) pe_int))) (pe_slice sl_any (pv 1) (po_some (pv 2)) po_none)))) pss_nil)
  (pss_cons (ps_if (pt_cmpR (op_eqG (hu2_of hr)) (pv 6) pe_int (nomark _)) (pss_cons (ps_par (i := 7) (j := 8) (by rfl) sc_law_bent.nd rfl rfl (by decide) rfl rfl (pa_cons (pe_callB (call_min2 rfl) (by rfl) T.n_min (by decide +kernel) (pa_cons (pv 2) (pa_cons (pv 3) pa_nil))) (pa_cons (pe_callB (call_max2 rfl) (by rfl) T.n_max (by decide +kernel) (pa_cons (pv 2) (pa_cons (pv 3) pa_nil))) pa_nil)) (by rfl))
  (pss_one (ps_ret (pe_op op_addG (pe_op op_addG (pe_op op_addG (pe_op op_addG (pe_slice sl_any (pv 1) po_none (po_some (pv 7))) (pe_slice sl_any (pv 1) (po_some (pv 8)) (po_some (pe_op op_addG (pv 8) pe_int)))) (pe_slice sl_any (pv 1) (po_some (pe_op op_addG (pv 7) pe_int)) (po_some (pv 8)))) (pe_op op_repB (pe_slice sl_any (pv 1) (po_some (pv 7)) (po_some (pe_op op_addG (pv 7) pe_int))) (pe_callTy call_int1 (by rfl) T.n_int (by decide +kernel) (pa_cons (pe_cmpR op_lt (pv 7) (pv 8) (nomark _)) pa_nil)))) (pe_slice sl_any (pv 1) (po_some (pe_op op_addG (pv 8) pe_int)) po_none))))) pss_nil)
  (pss_cons (ps_if (pt_cmpR (op_eqG (hu2_of hr)) (pv 6) pe_int (nomark _)) (pss_one (ps_ret (pe_ixG (hu_of hr) (pe_lstN (pa_cons (pe_slice sl_any (pv 1) po_none (po_some (pv 2))) (pa_cons (pe_slice sl_any (pv 1) (po_some (pv 2)) po_none) (pa_cons (pe_op op_addG (pv 1) (pe_slice sl_any (pv 1) (po_some (pv 2)) (po_some (pe_op op_addG (pv 2) pe_int)))) pa_nil)))) (pe_cal c_law_draw hr rfl (pa_cons (pv 0) (pa_cons pe_int pa_nil))) (fun _ _ => rfl)))) pss_nil)
  (pss_one (ps_ret (pe_op op_addG (pe_op op_addG (pe_slice sl_any (pv 1) po_none (po_some (pv 2))) (pe_tupN (pa_cons (pe_cal c_law_bent_step hr rfl (pa_cons (pv 0) (pa_cons (pv 4) pa_nil))) pa_nil))) (pe_slice sl_any (pv 1) (po_some (pe_op op_addG (pv 2) pe_int)) po_none))))))))))))))
abbrev st_law : Stmt := topS 55
theorem sc_law : FnScope ["_law_script", "_law_pen_here", "_law_program_here", "_law_names_here", "_law_turn", "_law_f", "_law_body_here", "_law_ways_here", "_law_rows", "_law_bent_here", "_law_thing"] ["_law_script"] (defScope st_law) := ⟨rfl, rfl, rfl, by decide +kernel, rfl, by decide +kernel, by decide +kernel⟩
theorem mkl_law {P : Program} {w : World} {K : PySem.W.Frag} {mg : Str → Option Value} {base : Heap} {fd : FuncData} (F : FunD K "law" "law" (defArgs (topS 55)) (defBody (topS 55)) (defScope (topS 55)) [] [] (He.ga K "law") fd) (T : TX w K mg) {j : Nat} {sp : Sp} {s_law_pen s_law_program s_law_functions s_law_draw s_law_ways s_law_body_of s_law_done s_law_built s_law_bent s_law_same s_law_let_by s_lets_by : Sp} (c_law_pen : Cal P w K mg base j "_law_pen" s_law_pen) (c_law_program : Cal P w K mg base j "_law_program" s_law_program) (c_law_functions : Cal P w K mg base j "_law_functions" s_law_functions) (c_law_draw : Cal P w K mg base j "_law_draw" s_law_draw) (c_law_ways : Cal P w K mg base j "_law_ways" s_law_ways) (c_law_body_of : Cal P w K mg base j "_law_body_of" s_law_body_of) (c_law_done : Cal P w K mg base j "_law_done" s_law_done) (c_law_built : Cal P w K mg base j "_law_built" s_law_built) (c_law_bent : Cal P w K mg base j "_law_bent" s_law_bent) (c_law_same : CalG P w K mg base j "_law_same" s_law_same) (c_law_let_by : CalG P w K mg base j "_law_let_by" s_law_let_by) (c_lets_by : Cal P w K mg base j "lets_by" s_lets_by)
    (pure_ : PureOk 1 sp (t_law K w s_law_pen s_law_program s_law_functions s_law_draw s_law_ways s_law_body_of s_law_done s_law_built s_law_bent s_law_same s_law_let_by s_lets_by) 11) : FnOkG P w K mg base CX0 (j + 1) (He.ga K "law") fd ["_law_script"] sp := by
  refine okG F sc_law pure_.len fun cdv A outer s H vs Q E hr hgd h => ?_
  refine ⟨t_law K w s_law_pen s_law_program s_law_functions s_law_draw s_law_ways s_law_body_of s_law_done s_law_built s_law_bent s_law_same s_law_let_by s_lets_by, PSs.nox ?_, pure_.run vs H Q E h⟩
  exact (pss_cons (ps_set (i := 1) sc_law.nd rfl (Or.inl rfl) (pe_cal c_law_pen hr rfl (pa_cons (pv 0) pa_nil)))
  (pss_cons (ps_set (i := 2) sc_law.nd rfl (Or.inl rfl) (pe_cal c_law_program hr rfl (pa_cons (pv 1) pa_nil)))
  (pss_cons (ps_set (i := 3) sc_law.nd rfl (Or.inl rfl) (pe_cal c_law_functions hr rfl (pa_cons (pv 2) pa_nil)))
  (pss_cons (ps_for PassesOwn.never rfl (pi_range1 (by rfl) T.n_range (pa_cons pe_int pa_nil)) (pg_name (i := 4) sc_law.nd rfl (by first | exact Or.inl rfl | exact Or.inr rfl)) (pss_cons (ps_set (i := 5) sc_law.nd rfl (Or.inl rfl) (pe_ixG (hu_of hr) (pv 3) (pe_cal c_law_draw hr rfl (pa_cons (pv 1) (pa_cons (pe_callB call_lenG (by rfl) T.n_len (by decide +kernel) (pa_cons (pv 3) pa_nil)) pa_nil))) (fun _ _ => rfl)))
  (pss_cons (ps_par (i := 6) (j := 7) (by rfl) sc_law.nd rfl rfl (by decide) rfl rfl (pa_cons (pe_ixG (hu_of hr) (pe_cal c_law_body_of hr rfl (pa_cons (pv 2) (pa_cons (pv 5) pa_nil))) pe_int (fun _ _ => rfl)) (pa_cons (pe_cal c_law_ways hr rfl (pa_cons (pv 2) (pa_cons (pv 5) pa_nil))) pa_nil)) (by rfl))
  (pss_cons (ps_set (i := 8) sc_law.nd rfl (Or.inl rfl) (pe_ixG (hu_of hr) (pe_lstN (pa_cons (pe_cal c_law_built hr rfl (pa_cons (pv 6) (pa_cons (pv 7) pa_nil))) (pa_cons (pe_cal c_law_done hr rfl (pa_cons (pe_lstN pa_nil) (pa_cons (pv 6) (pa_cons pe_str (pa_cons (pv 7) pa_nil))))) (pa_cons (pe_cal c_law_done hr rfl (pa_cons (pv 1) (pa_cons (pv 6) (pa_cons pe_str (pa_cons (pv 7) pa_nil))))) pa_nil)))) (pe_cal c_law_draw hr rfl (pa_cons (pv 1) (pa_cons pe_int pa_nil))) (fun _ _ => rfl)))
  (pss_cons (ps_set (i := 9) sc_law.nd rfl (Or.inl rfl) (pe_cal c_law_bent hr rfl (pa_cons (pv 1) (pa_cons (pe_callTy call_tupleG (by rfl) T.n_tuple (by decide +kernel) (pa_cons (pe_op op_addG (pv 8) (pe_lstN (pa_cons (pe_tupN (pa_cons pe_str pa_nil)) pa_nil))) pa_nil)) pa_nil))))
  (pss_one (ps_for PassesOwn.never rfl (pi_seq (pe_lstN (pa_cons (pv 9) (pa_cons (pe_cal c_law_bent hr rfl (pa_cons (pv 1) (pa_cons (pe_op op_addG (pv 9) (pe_tupN (pa_cons (pe_tupN (pa_cons pe_str pa_nil)) pa_nil))) pa_nil))) pa_nil)))) (pg_name (i := 10) sc_law.nd rfl (by first | exact Or.inl rfl | exact Or.inr rfl)) (pss_one (ps_if (pt_not (pt_tru (pe_calG c_law_same hr hgd rfl (pa_cons (pe_cal c_lets_by hr rfl (pa_cons (pv 2) (pa_cons (pv 5) (pa_cons (pv 10) pa_nil)))) (pa_cons (pe_calG c_law_let_by hr hgd rfl (pa_cons (pv 2) (pa_cons (pv 5) (pa_cons (pv 10) pa_nil)))) pa_nil))) (by intro _; rfl))) (pss_one (ps_ret pe_bl)) pss_nil)))))))))
  (pss_one (ps_ret (pe_cmpR (op_eqG (hu2_of hr)) (pv 2) (pe_cal c_law_program hr rfl (pa_cons (pe_cal c_law_pen hr rfl (pa_cons (pv 0) pa_nil)) pa_nil)) (nomark _))))))))
theorem nv_law_part {P : Program} {w : World} {K : PySem.W.Frag} {mg : Str → Option Value} {base : Heap} (T : TX w K mg) {sp : Sp} (no : ∀ vs H Q E, ¬ sp vs H Q E) : Cal P w K mg base 1 "_law_part" sp := by
  obtain ⟨fd, F⟩ := T.d_law_part
  exact cal_mk F T.f_law_part sc_law_part (F.bindsN fun _ _ _ _ _ _ us hl => match us, hl with | [_, _, _, _, _], _ => rfl) (fun vs H Q E h => (no _ _ _ _ h).elim) fun cdv A outer s H vs Q E hr h => (no _ _ _ _ h).elim
theorem nv_building {P : Program} {w : World} {K : PySem.W.Frag} {mg : Str → Option Value} {base : Heap} (T : TX w K mg) {sp : Sp} (no : ∀ vs H Q E, ¬ sp vs H Q E) : Cal P w K mg base 1 "building" sp := by
  obtain ⟨fd, F⟩ := T.d_building
  exact cal_mk F T.f_building sc_building (F.bindsN fun _ _ _ _ _ _ us hl => match us, hl with | [_, _], _ => rfl) (fun vs H Q E h => (no _ _ _ _ h).elim) fun cdv A outer s H vs Q E hr h => (no _ _ _ _ h).elim
theorem nv_law_built {P : Program} {w : World} {K : PySem.W.Frag} {mg : Str → Option Value} {base : Heap} (T : TX w K mg) {sp : Sp} (no : ∀ vs H Q E, ¬ sp vs H Q E) : Cal P w K mg base 1 "_law_built" sp := by
  obtain ⟨fd, F⟩ := T.d_law_built
  exact cal_mk F T.f_law_built sc_law_built (F.bindsN fun _ _ _ _ _ _ us hl => match us, hl with | [_, _], _ => rfl) (fun vs H Q E h => (no _ _ _ _ h).elim) fun cdv A outer s H vs Q E hr h => (no _ _ _ _ h).elim
theorem nv_law_done {P : Program} {w : World} {K : PySem.W.Frag} {mg : Str → Option Value} {base : Heap} (T : TX w K mg) {sp : Sp} (no : ∀ vs H Q E, ¬ sp vs H Q E) : Cal P w K mg base 1 "_law_done" sp := by
  obtain ⟨fd, F⟩ := T.d_law_done
  exact cal_mk F T.f_law_done sc_law_done (F.bindsN fun _ _ _ _ _ _ us hl => match us, hl with | [_, _, _, _], _ => rfl) (fun vs H Q E h => (no _ _ _ _ h).elim) fun cdv A outer s H vs Q E hr h => (no _ _ _ _ h).elim
theorem nv_is_alike {P : Program} {w : World} {K : PySem.W.Frag} {mg : Str → Option Value} {base : Heap} (T : TX w K mg) {sp : Sp} (no : ∀ vs H Q E, ¬ sp vs H Q E) : Cal P w K mg base 1 "is_alike" sp := by
  obtain ⟨fd, F⟩ := T.d_is_alike
  exact cal_mk F T.f_is_alike sc_is_alike (F.bindsN fun _ _ _ _ _ _ us hl => match us, hl with | [_, _], _ => rfl) (fun vs H Q E h => (no _ _ _ _ h).elim) fun cdv A outer s H vs Q E hr h => (no _ _ _ _ h).elim
theorem nv_doings {P : Program} {w : World} {K : PySem.W.Frag} {mg : Str → Option Value} {base : Heap} (T : TX w K mg) {sp : Sp} (no : ∀ vs H Q E, ¬ sp vs H Q E) : Cal P w K mg base 1 "doings" sp := by
  obtain ⟨fd, F⟩ := T.d_doings
  exact cal_mk F T.f_doings sc_doings (F.bindsN fun _ _ _ _ _ _ us hl => match us, hl with | [_, _, _, _, _], _ => rfl) (fun vs H Q E h => (no _ _ _ _ h).elim) fun cdv A outer s H vs Q E hr h => (no _ _ _ _ h).elim
theorem nv_endings {P : Program} {w : World} {K : PySem.W.Frag} {mg : Str → Option Value} {base : Heap} (T : TX w K mg) {sp : Sp} (no : ∀ vs H Q E, ¬ sp vs H Q E) : Cal P w K mg base 1 "endings" sp := by
  obtain ⟨fd, F⟩ := T.d_endings
  exact cal_mk F T.f_endings sc_endings (F.bindsN fun _ _ _ _ _ _ us hl => match us, hl with | [_, _, _, _], _ => rfl) (fun vs H Q E h => (no _ _ _ _ h).elim) fun cdv A outer s H vs Q E hr h => (no _ _ _ _ h).elim
theorem nv_law_ends {P : Program} {w : World} {K : PySem.W.Frag} {mg : Str → Option Value} {base : Heap} (T : TX w K mg) {sp : Sp} (no : ∀ vs H Q E, ¬ sp vs H Q E) : CalG P w K mg base 1 "_law_ends" sp := by
  obtain ⟨fd, F⟩ := T.d_law_ends
  exact calG_mk F T.f_law_ends sc_law_ends (F.bindsN fun _ _ _ _ _ _ us hl => match us, hl with | [_, _, _, _, _], _ => rfl) (fun vs H Q E h => (no _ _ _ _ h).elim) fun cdv A outer s H vs Q E hr hgd h => (no _ _ _ _ h).elim
theorem nv_law_bent {P : Program} {w : World} {K : PySem.W.Frag} {mg : Str → Option Value} {base : Heap} (T : TX w K mg) {sp : Sp} (no : ∀ vs H Q E, ¬ sp vs H Q E) : Cal P w K mg base 1 "_law_bent" sp := by
  obtain ⟨fd, F⟩ := T.d_law_bent
  exact cal_mk F T.f_law_bent sc_law_bent (F.bindsN fun _ _ _ _ _ _ us hl => match us, hl with | [_, _], _ => rfl) (fun vs H Q E h => (no _ _ _ _ h).elim) fun cdv A outer s H vs Q E hr h => (no _ _ _ _ h).elim
theorem tx_mk {w : World} {K : PySem.W.Frag} {h h2 : Heap} {mg : Str → Option Value} (X : K.In h) (G : h.Ns mainGlobals mg) (c : He.SaysX hfa hfn hts [] hex w h2 K) : TX w K mg := by
  have hm := c.more
  unfold hex at hm
  simp only [Bool.and_eq_true] at hm
  exact {
    d_within := c.t.d.def_ 0 rfl
    f_within := He.glo_ok X G (c.t.d.fact 0 (f := .glo "within") rfl)
    d_in_order := c.t.d.def_ 1 rfl
    f_in_order := He.glo_ok X G (c.t.d.fact 1 (f := .glo "in_order") rfl)
    d_bodies := c.t.d.def_ 2 rfl
    f_bodies := He.glo_ok X G (c.t.d.fact 2 (f := .glo "bodies") rfl)
    d_number_of := c.t.d.def_ 3 rfl
    f_number_of := He.glo_ok X G (c.t.d.fact 3 (f := .glo "number_of") rfl)
    d_things_of := c.t.d.def_ 4 rfl
    f_things_of := He.glo_ok X G (c.t.d.fact 4 (f := .glo "things_of") rfl)
    d_body_of := c.t.d.def_ 5 rfl
    f_body_of := He.glo_ok X G (c.t.d.fact 5 (f := .glo "body_of") rfl)
    d_house_of := c.t.d.def_ 6 rfl
    f_house_of := He.glo_ok X G (c.t.d.fact 6 (f := .glo "house_of") rfl)
    d_opening := c.t.d.def_ 7 rfl
    f_opening := He.glo_ok X G (c.t.d.fact 7 (f := .glo "opening") rfl)
    d_building := c.t.d.def_ 8 rfl
    f_building := He.glo_ok X G (c.t.d.fact 8 (f := .glo "building") rfl)
    d_is_alike := c.t.d.def_ 9 rfl
    f_is_alike := He.glo_ok X G (c.t.d.fact 9 (f := .glo "is_alike") rfl)
    d_behind_all := c.t.d.def_ 10 rfl
    f_behind_all := He.glo_ok X G (c.t.d.fact 10 (f := .glo "behind_all") rfl)
    d_doings_all := c.t.d.def_ 11 rfl
    f_doings_all := He.glo_ok X G (c.t.d.fact 11 (f := .glo "doings_all") rfl)
    d_sums_end := c.t.d.def_ 12 rfl
    f_sums_end := He.glo_ok X G (c.t.d.fact 12 (f := .glo "sums_end") rfl)
    d_is_turn := c.t.d.def_ 13 rfl
    f_is_turn := He.glo_ok X G (c.t.d.fact 13 (f := .glo "is_turn") rfl)
    d_turns_end := c.t.d.def_ 14 rfl
    f_turns_end := He.glo_ok X G (c.t.d.fact 14 (f := .glo "turns_end") rfl)
    d_sides_end := c.t.d.def_ 15 rfl
    f_sides_end := He.glo_ok X G (c.t.d.fact 15 (f := .glo "sides_end") rfl)
    d_doings := c.t.d.def_ 16 rfl
    f_doings := He.glo_ok X G (c.t.d.fact 16 (f := .glo "doings") rfl)
    d_endings := c.t.d.def_ 17 rfl
    f_endings := He.glo_ok X G (c.t.d.fact 17 (f := .glo "endings") rfl)
    d_is_one := c.t.d.def_ 18 rfl
    f_is_one := He.glo_ok X G (c.t.d.fact 18 (f := .glo "is_one") rfl)
    d_lets_by := c.t.d.def_ 19 rfl
    f_lets_by := He.glo_ok X G (c.t.d.fact 19 (f := .glo "lets_by") rfl)
    d_law_pen := c.t.d.def_ 20 rfl
    f_law_pen := He.glo_ok X G (c.t.d.fact 20 (f := .glo "_law_pen") rfl)
    d_law_draw := c.t.d.def_ 21 rfl
    f_law_draw := He.glo_ok X G (c.t.d.fact 21 (f := .glo "_law_draw") rfl)
    d_law_names := c.t.d.def_ 22 rfl
    f_law_names := He.glo_ok X G (c.t.d.fact 22 (f := .glo "_law_names") rfl)
    d_law_number := c.t.d.def_ 23 rfl
    f_law_number := He.glo_ok X G (c.t.d.fact 23 (f := .glo "_law_number") rfl)
    d_law_leaf := c.t.d.def_ 24 rfl
    f_law_leaf := He.glo_ok X G (c.t.d.fact 24 (f := .glo "_law_leaf") rfl)
    d_law_fits := c.t.d.def_ 25 rfl
    f_law_fits := He.glo_ok X G (c.t.d.fact 25 (f := .glo "_law_fits") rfl)
    d_law_call := c.t.d.def_ 26 rfl
    f_law_call := He.glo_ok X G (c.t.d.fact 26 (f := .glo "_law_call") rfl)
    d_law_let := c.t.d.def_ 27 rfl
    f_law_let := He.glo_ok X G (c.t.d.fact 27 (f := .glo "_law_let") rfl)
    d_law_part := c.t.d.def_ 28 rfl
    f_law_part := He.glo_ok X G (c.t.d.fact 28 (f := .glo "_law_part") rfl)
    d_law_loop := c.t.d.def_ 29 rfl
    f_law_loop := He.glo_ok X G (c.t.d.fact 29 (f := .glo "_law_loop") rfl)
    d_law_body := c.t.d.def_ 30 rfl
    f_law_body := He.glo_ok X G (c.t.d.fact 30 (f := .glo "_law_body") rfl)
    d_law_program := c.t.d.def_ 31 rfl
    f_law_program := He.glo_ok X G (c.t.d.fact 31 (f := .glo "_law_program") rfl)
    d_law_all_within := c.t.d.def_ 32 rfl
    f_law_all_within := He.glo_ok X G (c.t.d.fact 32 (f := .glo "_law_all_within") rfl)
    d_law_body_of := c.t.d.def_ 33 rfl
    f_law_body_of := He.glo_ok X G (c.t.d.fact 33 (f := .glo "_law_body_of") rfl)
    d_law_ways := c.t.d.def_ 34 rfl
    f_law_ways := He.glo_ok X G (c.t.d.fact 34 (f := .glo "_law_ways") rfl)
    d_law_opened := c.t.d.def_ 35 rfl
    f_law_opened := He.glo_ok X G (c.t.d.fact 35 (f := .glo "_law_opened") rfl)
    d_law_built := c.t.d.def_ 36 rfl
    f_law_built := He.glo_ok X G (c.t.d.fact 36 (f := .glo "_law_built") rfl)
    d_law_done := c.t.d.def_ 37 rfl
    f_law_done := He.glo_ok X G (c.t.d.fact 37 (f := .glo "_law_done") rfl)
    d_law_functions := c.t.d.def_ 38 rfl
    f_law_functions := He.glo_ok X G (c.t.d.fact 38 (f := .glo "_law_functions") rfl)
    d_law_same := c.t.d.def_ 39 rfl
    f_law_same := He.glo_ok X G (c.t.d.fact 39 (f := .glo "_law_same") rfl)
    d_law_met := c.t.d.def_ 40 rfl
    f_law_met := He.glo_ok X G (c.t.d.fact 40 (f := .glo "_law_met") rfl)
    d_law_turned := c.t.d.def_ 41 rfl
    f_law_turned := He.glo_ok X G (c.t.d.fact 41 (f := .glo "_law_turned") rfl)
    d_law_ends := c.t.d.def_ 42 rfl
    f_law_ends := He.glo_ok X G (c.t.d.fact 42 (f := .glo "_law_ends") rfl)
    d_law_let_by := c.t.d.def_ 43 rfl
    f_law_let_by := He.glo_ok X G (c.t.d.fact 43 (f := .glo "_law_let_by") rfl)
    d_law_other := c.t.d.def_ 44 rfl
    f_law_other := He.glo_ok X G (c.t.d.fact 44 (f := .glo "_law_other") rfl)
    d_law_bent_step := c.t.d.def_ 45 rfl
    f_law_bent_step := He.glo_ok X G (c.t.d.fact 45 (f := .glo "_law_bent_step") rfl)
    d_law_bent := c.t.d.def_ 46 rfl
    f_law_bent := He.glo_ok X G (c.t.d.fact 46 (f := .glo "_law_bent") rfl)
    d_law := c.t.d.def_ 47 rfl
    f_law := He.glo_ok X G (c.t.d.fact 47 (f := .glo "law") rfl)
    n_list := He.free_ok X G (c.t.d.fact 48 (f := .free "list") rfl)
    n_len := He.free_ok X G (c.t.d.fact 49 (f := .free "len") rfl)
    n_enumerate := He.free_ok X G (c.t.d.fact 50 (f := .free "enumerate") rfl)
    n_tuple := He.free_ok X G (c.t.d.fact 51 (f := .free "tuple") rfl)
    n_isinstance := He.free_ok X G (c.t.d.fact 52 (f := .free "isinstance") rfl)
    n_zip := He.free_ok X G (c.t.d.fact 53 (f := .free "zip") rfl)
    n_all := He.free_ok X G (c.t.d.fact 54 (f := .free "all") rfl)
    n_str := He.free_ok X G (c.t.d.fact 55 (f := .free "str") rfl)
    n_int := He.free_ok X G (c.t.d.fact 56 (f := .free "int") rfl)
    n_bool := He.free_ok X G (c.t.d.fact 57 (f := .free "bool") rfl)
    n_set := He.free_ok X G (c.t.d.fact 58 (f := .free "set") rfl)
    n_sorted := He.free_ok X G (c.t.d.fact 59 (f := .free "sorted") rfl)
    n_max := He.free_ok X G (c.t.d.fact 60 (f := .free "max") rfl)
    n_abs := He.free_ok X G (c.t.d.fact 61 (f := .free "abs") rfl)
    n_range := He.free_ok X G (c.t.d.fact 62 (f := .free "range") rfl)
    n_min := He.free_ok X G (c.t.d.fact 63 (f := .free "min") rfl)
    n_repr := He.free_ok X G (c.t.d.fact 64 (f := .free "repr") rfl)
    g_PARTS := He.glo_ok X G (c.t.d.fact 65 (f := .glo "PARTS") rfl)
    k_PARTS := ktab_of (kvs := [("give", .int 2), ("plus", .int 2), ("less", .int 2), ("times", .int 2), ("below", .int 2), ("when", .int 3), ("pair", .int 2), ("left", .int 1), ("right", .int 1)]) (tab_at c.t 0 rfl) hm.1.1
    g_OPERATIONS := He.glo_ok X G (c.t.d.fact 66 (f := .glo "OPERATIONS") rfl)
    t_OPERATIONS := fun H => He.tupB_ok hm.1.2 H
    g_SIDES := He.glo_ok X G (c.t.d.fact 67 (f := .glo "SIDES") rfl)
    t_SIDES := fun H => He.tupB_ok hm.2 H
  }
section
variable {P : Program} {w : World} {K : PySem.W.Frag} {mg : Str → Option Value} {base : Heap}
theorem law_ok (T : TX w K mg) {fd : FuncData} (F : FunD K "law" "law" (defArgs (topS 55)) (defBody (topS 55)) (defScope (topS 55)) [] [] (He.ga K "law") fd) : FnOkG P w K mg base CX0 62 (He.ga K "law") fd ["_law_script"] (spLaw K) := by
  have c_law_pen : Cal P w K mg base 1 "_law_pen" (spPen K) := mk_law_pen (j := 0) T  (pure_pen)
  have c_law_draw : Cal P w K mg base 1 "_law_draw" (spDraw) := mk_law_draw (j := 0) T  (pure_draw)
  have c_law_names : Cal P w K mg base 2 "_law_names" (spNames) := mk_law_names (j := 1) T (c_law_draw.mono (by decide)) (pure_names)
  have c_law_fits : Cal P w K mg base 1 "_law_fits" (spFits) := mk_law_fits (j := 0) T  (pure_fits)
  have c_law_number : Cal P w K mg base 2 "_law_number" (spNumber) := mk_law_number (j := 1) T (c_law_draw.mono (by decide)) (pure_number)
  have c_law_leaf : Cal P w K mg base 3 "_law_leaf" (spLeaf) := mk_law_leaf (j := 2) T (c_law_draw.mono (by decide)) (c_law_number.mono (by decide)) (pure_leaf)
  have c_law_part_0 : Cal P w K mg base 1 "_law_part" (spPart 0) := nv_law_part T (fun vs H Q E ⟨_, _, _, _, _, _, _, _, _, _, _, _, _, _, _, _, h, _⟩ => Nat.not_lt_zero _ h)
  have c_law_call_1 : Cal P w K mg base 4 "_law_call" (spCallP 0) := mk_law_call (j := 3) T (c_law_draw.mono (by decide)) (c_law_fits.mono (by decide)) (c_law_leaf.mono (by decide)) (c_law_part_0.mono (by decide)) (pure_callp)
  have c_law_let_1 : Cal P w K mg base 4 "_law_let" (spLet 0) := mk_law_let (j := 3) T (c_law_draw.mono (by decide)) (c_law_fits.mono (by decide)) (c_law_leaf.mono (by decide)) (c_law_part_0.mono (by decide)) (pure_letp)
  have c_law_part_1 : Cal P w K mg base 5 "_law_part" (spPart 1) := mk_law_part (j := 4) T (c_law_draw.mono (by decide)) (c_law_leaf.mono (by decide)) (c_law_call_1.mono (by decide)) (c_law_let_1.mono (by decide)) (c_law_fits.mono (by decide)) (c_law_part_0.mono (by decide)) (pure_part)
  have c_law_call_2 : Cal P w K mg base 6 "_law_call" (spCallP 1) := mk_law_call (j := 5) T (c_law_draw.mono (by decide)) (c_law_fits.mono (by decide)) (c_law_leaf.mono (by decide)) (c_law_part_1.mono (by decide)) (pure_callp)
  have c_law_let_2 : Cal P w K mg base 6 "_law_let" (spLet 1) := mk_law_let (j := 5) T (c_law_draw.mono (by decide)) (c_law_fits.mono (by decide)) (c_law_leaf.mono (by decide)) (c_law_part_1.mono (by decide)) (pure_letp)
  have c_law_part_2 : Cal P w K mg base 7 "_law_part" (spPart 2) := mk_law_part (j := 6) T (c_law_draw.mono (by decide)) (c_law_leaf.mono (by decide)) (c_law_call_2.mono (by decide)) (c_law_let_2.mono (by decide)) (c_law_fits.mono (by decide)) (c_law_part_1.mono (by decide)) (pure_part)
  have c_law_call_3 : Cal P w K mg base 8 "_law_call" (spCallP 2) := mk_law_call (j := 7) T (c_law_draw.mono (by decide)) (c_law_fits.mono (by decide)) (c_law_leaf.mono (by decide)) (c_law_part_2.mono (by decide)) (pure_callp)
  have c_law_let_3 : Cal P w K mg base 8 "_law_let" (spLet 2) := mk_law_let (j := 7) T (c_law_draw.mono (by decide)) (c_law_fits.mono (by decide)) (c_law_leaf.mono (by decide)) (c_law_part_2.mono (by decide)) (pure_letp)
  have c_law_part_3 : Cal P w K mg base 9 "_law_part" (spPart 3) := mk_law_part (j := 8) T (c_law_draw.mono (by decide)) (c_law_leaf.mono (by decide)) (c_law_call_3.mono (by decide)) (c_law_let_3.mono (by decide)) (c_law_fits.mono (by decide)) (c_law_part_2.mono (by decide)) (pure_part)
  have c_law_call_4 : Cal P w K mg base 10 "_law_call" (spCallP 3) := mk_law_call (j := 9) T (c_law_draw.mono (by decide)) (c_law_fits.mono (by decide)) (c_law_leaf.mono (by decide)) (c_law_part_3.mono (by decide)) (pure_callp)
  have c_law_let_4 : Cal P w K mg base 10 "_law_let" (spLet 3) := mk_law_let (j := 9) T (c_law_draw.mono (by decide)) (c_law_fits.mono (by decide)) (c_law_leaf.mono (by decide)) (c_law_part_3.mono (by decide)) (pure_letp)
  have c_law_part_4 : Cal P w K mg base 11 "_law_part" (spPart 4) := mk_law_part (j := 10) T (c_law_draw.mono (by decide)) (c_law_leaf.mono (by decide)) (c_law_call_4.mono (by decide)) (c_law_let_4.mono (by decide)) (c_law_fits.mono (by decide)) (c_law_part_3.mono (by decide)) (pure_part)
  have c_law_call_5 : Cal P w K mg base 12 "_law_call" (spCallP 4) := mk_law_call (j := 11) T (c_law_draw.mono (by decide)) (c_law_fits.mono (by decide)) (c_law_leaf.mono (by decide)) (c_law_part_4.mono (by decide)) (pure_callp)
  have c_law_let_5 : Cal P w K mg base 12 "_law_let" (spLet 4) := mk_law_let (j := 11) T (c_law_draw.mono (by decide)) (c_law_fits.mono (by decide)) (c_law_leaf.mono (by decide)) (c_law_part_4.mono (by decide)) (pure_letp)
  have c_law_part_5 : Cal P w K mg base 13 "_law_part" (spPart 5) := mk_law_part (j := 12) T (c_law_draw.mono (by decide)) (c_law_leaf.mono (by decide)) (c_law_call_5.mono (by decide)) (c_law_let_5.mono (by decide)) (c_law_fits.mono (by decide)) (c_law_part_4.mono (by decide)) (pure_part)
  have c_law_call_6 : Cal P w K mg base 14 "_law_call" (spCallP 5) := mk_law_call (j := 13) T (c_law_draw.mono (by decide)) (c_law_fits.mono (by decide)) (c_law_leaf.mono (by decide)) (c_law_part_5.mono (by decide)) (pure_callp)
  have c_law_let_6 : Cal P w K mg base 14 "_law_let" (spLet 5) := mk_law_let (j := 13) T (c_law_draw.mono (by decide)) (c_law_fits.mono (by decide)) (c_law_leaf.mono (by decide)) (c_law_part_5.mono (by decide)) (pure_letp)
  have c_law_part_6 : Cal P w K mg base 15 "_law_part" (spPart 6) := mk_law_part (j := 14) T (c_law_draw.mono (by decide)) (c_law_leaf.mono (by decide)) (c_law_call_6.mono (by decide)) (c_law_let_6.mono (by decide)) (c_law_fits.mono (by decide)) (c_law_part_5.mono (by decide)) (pure_part)
  have c_law_call_7 : Cal P w K mg base 16 "_law_call" (spCallP 6) := mk_law_call (j := 15) T (c_law_draw.mono (by decide)) (c_law_fits.mono (by decide)) (c_law_leaf.mono (by decide)) (c_law_part_6.mono (by decide)) (pure_callp)
  have c_law_let_7 : Cal P w K mg base 16 "_law_let" (spLet 6) := mk_law_let (j := 15) T (c_law_draw.mono (by decide)) (c_law_fits.mono (by decide)) (c_law_leaf.mono (by decide)) (c_law_part_6.mono (by decide)) (pure_letp)
  have c_law_part_7 : Cal P w K mg base 17 "_law_part" (spPart 7) := mk_law_part (j := 16) T (c_law_draw.mono (by decide)) (c_law_leaf.mono (by decide)) (c_law_call_7.mono (by decide)) (c_law_let_7.mono (by decide)) (c_law_fits.mono (by decide)) (c_law_part_6.mono (by decide)) (pure_part)
  have c_law_call_8 : Cal P w K mg base 18 "_law_call" (spCallP 7) := mk_law_call (j := 17) T (c_law_draw.mono (by decide)) (c_law_fits.mono (by decide)) (c_law_leaf.mono (by decide)) (c_law_part_7.mono (by decide)) (pure_callp)
  have c_law_let_8 : Cal P w K mg base 18 "_law_let" (spLet 7) := mk_law_let (j := 17) T (c_law_draw.mono (by decide)) (c_law_fits.mono (by decide)) (c_law_leaf.mono (by decide)) (c_law_part_7.mono (by decide)) (pure_letp)
  have c_law_part_8 : Cal P w K mg base 19 "_law_part" (spPart 8) := mk_law_part (j := 18) T (c_law_draw.mono (by decide)) (c_law_leaf.mono (by decide)) (c_law_call_8.mono (by decide)) (c_law_let_8.mono (by decide)) (c_law_fits.mono (by decide)) (c_law_part_7.mono (by decide)) (pure_part)
  have c_law_call_9 : Cal P w K mg base 20 "_law_call" (spCallP 8) := mk_law_call (j := 19) T (c_law_draw.mono (by decide)) (c_law_fits.mono (by decide)) (c_law_leaf.mono (by decide)) (c_law_part_8.mono (by decide)) (pure_callp)
  have c_law_let_9 : Cal P w K mg base 20 "_law_let" (spLet 8) := mk_law_let (j := 19) T (c_law_draw.mono (by decide)) (c_law_fits.mono (by decide)) (c_law_leaf.mono (by decide)) (c_law_part_8.mono (by decide)) (pure_letp)
  have c_law_part_9 : Cal P w K mg base 21 "_law_part" (spPart 9) := mk_law_part (j := 20) T (c_law_draw.mono (by decide)) (c_law_leaf.mono (by decide)) (c_law_call_9.mono (by decide)) (c_law_let_9.mono (by decide)) (c_law_fits.mono (by decide)) (c_law_part_8.mono (by decide)) (pure_part)
  have c_law_call_10 : Cal P w K mg base 22 "_law_call" (spCallP 9) := mk_law_call (j := 21) T (c_law_draw.mono (by decide)) (c_law_fits.mono (by decide)) (c_law_leaf.mono (by decide)) (c_law_part_9.mono (by decide)) (pure_callp)
  have c_law_let_10 : Cal P w K mg base 22 "_law_let" (spLet 9) := mk_law_let (j := 21) T (c_law_draw.mono (by decide)) (c_law_fits.mono (by decide)) (c_law_leaf.mono (by decide)) (c_law_part_9.mono (by decide)) (pure_letp)
  have c_law_part_10 : Cal P w K mg base 23 "_law_part" (spPart 10) := mk_law_part (j := 22) T (c_law_draw.mono (by decide)) (c_law_leaf.mono (by decide)) (c_law_call_10.mono (by decide)) (c_law_let_10.mono (by decide)) (c_law_fits.mono (by decide)) (c_law_part_9.mono (by decide)) (pure_part)
  have c_law_call_11 : Cal P w K mg base 24 "_law_call" (spCallP 10) := mk_law_call (j := 23) T (c_law_draw.mono (by decide)) (c_law_fits.mono (by decide)) (c_law_leaf.mono (by decide)) (c_law_part_10.mono (by decide)) (pure_callp)
  have c_law_let_11 : Cal P w K mg base 24 "_law_let" (spLet 10) := mk_law_let (j := 23) T (c_law_draw.mono (by decide)) (c_law_fits.mono (by decide)) (c_law_leaf.mono (by decide)) (c_law_part_10.mono (by decide)) (pure_letp)
  have c_law_part_11 : Cal P w K mg base 25 "_law_part" (spPart 11) := mk_law_part (j := 24) T (c_law_draw.mono (by decide)) (c_law_leaf.mono (by decide)) (c_law_call_11.mono (by decide)) (c_law_let_11.mono (by decide)) (c_law_fits.mono (by decide)) (c_law_part_10.mono (by decide)) (pure_part)
  have c_law_call_12 : Cal P w K mg base 26 "_law_call" (spCallP 11) := mk_law_call (j := 25) T (c_law_draw.mono (by decide)) (c_law_fits.mono (by decide)) (c_law_leaf.mono (by decide)) (c_law_part_11.mono (by decide)) (pure_callp)
  have c_law_let_12 : Cal P w K mg base 26 "_law_let" (spLet 11) := mk_law_let (j := 25) T (c_law_draw.mono (by decide)) (c_law_fits.mono (by decide)) (c_law_leaf.mono (by decide)) (c_law_part_11.mono (by decide)) (pure_letp)
  have c_law_part_12 : Cal P w K mg base 27 "_law_part" (spPart 12) := mk_law_part (j := 26) T (c_law_draw.mono (by decide)) (c_law_leaf.mono (by decide)) (c_law_call_12.mono (by decide)) (c_law_let_12.mono (by decide)) (c_law_fits.mono (by decide)) (c_law_part_11.mono (by decide)) (pure_part)
  have c_law_call := c_law_call_12
  have c_law_let := c_law_let_12
  have c_law_part := c_law_part_12
  have c_law_loop : Cal P w K mg base 28 "_law_loop" (spLoop) := mk_law_loop (j := 27) T (c_law_part.mono (by decide)) (c_law_draw.mono (by decide)) (pure_loop)
  have c_law_body : Cal P w K mg base 29 "_law_body" (spBody) := mk_law_body (j := 28) T (c_law_draw.mono (by decide)) (c_law_loop.mono (by decide)) (c_law_part.mono (by decide)) (pure_body)
  have c_law_program : Cal P w K mg base 30 "_law_program" (spProgram) := mk_law_program (j := 29) T (c_law_names.mono (by decide)) (c_law_draw.mono (by decide)) (c_law_body.mono (by decide)) (pure_program)
  have c_law_functions : Cal P w K mg base 1 "_law_functions" (spFunctions) := mk_law_functions (j := 0) T  (pure_functions)
  have c_law_body_of : Cal P w K mg base 1 "_law_body_of" (spLBodyOf) := mk_law_body_of (j := 0) T  (pure_lbodyof)
  have c_law_all_within : Cal P w K mg base 1 "_law_all_within" (spKids) := mk_law_all_within (j := 0) T  (pure_allwithin)
  have c_law_ways : Cal P w K mg base 2 "_law_ways" (spLWays) := mk_law_ways (j := 1) T (c_law_body_of.mono (by decide)) (c_law_all_within.mono (by decide)) (pure_lways)
  have c_law_built_0 : Cal P w K mg base 1 "_law_built" (spBuild 0) := nv_law_built T (fun vs H Q E ⟨_, p, _, _, _, _, _, _, h, _⟩ => by have := p.mxd_kids; omega)
  have c_law_opened_1 : Cal P w K mg base 2 "_law_opened" (spOpen 0) := mk_law_opened (j := 1) T (c_law_built_0.mono (by decide)) (pure_lopened)
  have c_law_built_1 : Cal P w K mg base 3 "_law_built" (spBuild 1) := mk_law_built (j := 2) T (c_law_opened_1.mono (by decide)) (c_law_built_0.mono (by decide)) (pure_lbuilt)
  have c_law_opened_2 : Cal P w K mg base 4 "_law_opened" (spOpen 1) := mk_law_opened (j := 3) T (c_law_built_1.mono (by decide)) (pure_lopened)
  have c_law_built_2 : Cal P w K mg base 5 "_law_built" (spBuild 2) := mk_law_built (j := 4) T (c_law_opened_2.mono (by decide)) (c_law_built_1.mono (by decide)) (pure_lbuilt)
  have c_law_opened_3 : Cal P w K mg base 6 "_law_opened" (spOpen 2) := mk_law_opened (j := 5) T (c_law_built_2.mono (by decide)) (pure_lopened)
  have c_law_built_3 : Cal P w K mg base 7 "_law_built" (spBuild 3) := mk_law_built (j := 6) T (c_law_opened_3.mono (by decide)) (c_law_built_2.mono (by decide)) (pure_lbuilt)
  have c_law_opened_4 : Cal P w K mg base 8 "_law_opened" (spOpen 3) := mk_law_opened (j := 7) T (c_law_built_3.mono (by decide)) (pure_lopened)
  have c_law_built_4 : Cal P w K mg base 9 "_law_built" (spBuild 4) := mk_law_built (j := 8) T (c_law_opened_4.mono (by decide)) (c_law_built_3.mono (by decide)) (pure_lbuilt)
  have c_law_opened_5 : Cal P w K mg base 10 "_law_opened" (spOpen 4) := mk_law_opened (j := 9) T (c_law_built_4.mono (by decide)) (pure_lopened)
  have c_law_built_5 : Cal P w K mg base 11 "_law_built" (spBuild 5) := mk_law_built (j := 10) T (c_law_opened_5.mono (by decide)) (c_law_built_4.mono (by decide)) (pure_lbuilt)
  have c_law_opened_6 : Cal P w K mg base 12 "_law_opened" (spOpen 5) := mk_law_opened (j := 11) T (c_law_built_5.mono (by decide)) (pure_lopened)
  have c_law_built_6 : Cal P w K mg base 13 "_law_built" (spBuild 6) := mk_law_built (j := 12) T (c_law_opened_6.mono (by decide)) (c_law_built_5.mono (by decide)) (pure_lbuilt)
  have c_law_opened_7 : Cal P w K mg base 14 "_law_opened" (spOpen 6) := mk_law_opened (j := 13) T (c_law_built_6.mono (by decide)) (pure_lopened)
  have c_law_built_7 : Cal P w K mg base 15 "_law_built" (spBuild 7) := mk_law_built (j := 14) T (c_law_opened_7.mono (by decide)) (c_law_built_6.mono (by decide)) (pure_lbuilt)
  have c_law_opened_8 : Cal P w K mg base 16 "_law_opened" (spOpen 7) := mk_law_opened (j := 15) T (c_law_built_7.mono (by decide)) (pure_lopened)
  have c_law_built_8 : Cal P w K mg base 17 "_law_built" (spBuild 8) := mk_law_built (j := 16) T (c_law_opened_8.mono (by decide)) (c_law_built_7.mono (by decide)) (pure_lbuilt)
  have c_law_opened_9 : Cal P w K mg base 18 "_law_opened" (spOpen 8) := mk_law_opened (j := 17) T (c_law_built_8.mono (by decide)) (pure_lopened)
  have c_law_built_9 : Cal P w K mg base 19 "_law_built" (spBuild 9) := mk_law_built (j := 18) T (c_law_opened_9.mono (by decide)) (c_law_built_8.mono (by decide)) (pure_lbuilt)
  have c_law_opened_10 : Cal P w K mg base 20 "_law_opened" (spOpen 9) := mk_law_opened (j := 19) T (c_law_built_9.mono (by decide)) (pure_lopened)
  have c_law_built_10 : Cal P w K mg base 21 "_law_built" (spBuild 10) := mk_law_built (j := 20) T (c_law_opened_10.mono (by decide)) (c_law_built_9.mono (by decide)) (pure_lbuilt)
  have c_law_opened_11 : Cal P w K mg base 22 "_law_opened" (spOpen 10) := mk_law_opened (j := 21) T (c_law_built_10.mono (by decide)) (pure_lopened)
  have c_law_built_11 : Cal P w K mg base 23 "_law_built" (spBuild 11) := mk_law_built (j := 22) T (c_law_opened_11.mono (by decide)) (c_law_built_10.mono (by decide)) (pure_lbuilt)
  have c_law_opened_12 : Cal P w K mg base 24 "_law_opened" (spOpen 11) := mk_law_opened (j := 23) T (c_law_built_11.mono (by decide)) (pure_lopened)
  have c_law_built_12 : Cal P w K mg base 25 "_law_built" (spBuild 12) := mk_law_built (j := 24) T (c_law_opened_12.mono (by decide)) (c_law_built_11.mono (by decide)) (pure_lbuilt)
  have c_law_opened := c_law_opened_12
  have c_law_built := c_law_built_12
  have c_law_done_0 : Cal P w K mg base 1 "_law_done" (spDone 0) := nv_law_done T (fun vs H Q E ⟨_, _, _, p, _, _, _, _, _, _, _, _, h, _⟩ => by have := p.mxd_kids; omega)
  have c_law_done_1 : Cal P w K mg base 26 "_law_done" (spDone 1) := mk_law_done (j := 25) T (c_law_draw.mono (by decide)) (c_law_built.mono (by decide)) (c_law_opened.mono (by decide)) (c_law_done_0.mono (by decide)) (pure_ldone)
  have c_law_done_2 : Cal P w K mg base 27 "_law_done" (spDone 2) := mk_law_done (j := 26) T (c_law_draw.mono (by decide)) (c_law_built.mono (by decide)) (c_law_opened.mono (by decide)) (c_law_done_1.mono (by decide)) (pure_ldone)
  have c_law_done_3 : Cal P w K mg base 28 "_law_done" (spDone 3) := mk_law_done (j := 27) T (c_law_draw.mono (by decide)) (c_law_built.mono (by decide)) (c_law_opened.mono (by decide)) (c_law_done_2.mono (by decide)) (pure_ldone)
  have c_law_done_4 : Cal P w K mg base 29 "_law_done" (spDone 4) := mk_law_done (j := 28) T (c_law_draw.mono (by decide)) (c_law_built.mono (by decide)) (c_law_opened.mono (by decide)) (c_law_done_3.mono (by decide)) (pure_ldone)
  have c_law_done_5 : Cal P w K mg base 30 "_law_done" (spDone 5) := mk_law_done (j := 29) T (c_law_draw.mono (by decide)) (c_law_built.mono (by decide)) (c_law_opened.mono (by decide)) (c_law_done_4.mono (by decide)) (pure_ldone)
  have c_law_done_6 : Cal P w K mg base 31 "_law_done" (spDone 6) := mk_law_done (j := 30) T (c_law_draw.mono (by decide)) (c_law_built.mono (by decide)) (c_law_opened.mono (by decide)) (c_law_done_5.mono (by decide)) (pure_ldone)
  have c_law_done_7 : Cal P w K mg base 32 "_law_done" (spDone 7) := mk_law_done (j := 31) T (c_law_draw.mono (by decide)) (c_law_built.mono (by decide)) (c_law_opened.mono (by decide)) (c_law_done_6.mono (by decide)) (pure_ldone)
  have c_law_done_8 : Cal P w K mg base 33 "_law_done" (spDone 8) := mk_law_done (j := 32) T (c_law_draw.mono (by decide)) (c_law_built.mono (by decide)) (c_law_opened.mono (by decide)) (c_law_done_7.mono (by decide)) (pure_ldone)
  have c_law_done_9 : Cal P w K mg base 34 "_law_done" (spDone 9) := mk_law_done (j := 33) T (c_law_draw.mono (by decide)) (c_law_built.mono (by decide)) (c_law_opened.mono (by decide)) (c_law_done_8.mono (by decide)) (pure_ldone)
  have c_law_done_10 : Cal P w K mg base 35 "_law_done" (spDone 10) := mk_law_done (j := 34) T (c_law_draw.mono (by decide)) (c_law_built.mono (by decide)) (c_law_opened.mono (by decide)) (c_law_done_9.mono (by decide)) (pure_ldone)
  have c_law_done_11 : Cal P w K mg base 36 "_law_done" (spDone 11) := mk_law_done (j := 35) T (c_law_draw.mono (by decide)) (c_law_built.mono (by decide)) (c_law_opened.mono (by decide)) (c_law_done_10.mono (by decide)) (pure_ldone)
  have c_law_done_12 : Cal P w K mg base 37 "_law_done" (spDone 12) := mk_law_done (j := 36) T (c_law_draw.mono (by decide)) (c_law_built.mono (by decide)) (c_law_opened.mono (by decide)) (c_law_done_11.mono (by decide)) (pure_ldone)
  have c_law_done := c_law_done_12
  have c_law_other : Cal P w K mg base 2 "_law_other" (spOther) := mk_law_other (j := 1) T (c_law_draw.mono (by decide)) (pure_other)
  have c_law_bent_step : Cal P w K mg base 3 "_law_bent_step" (spBentStep) := mk_law_bent_step (j := 2) T (c_law_draw.mono (by decide)) (c_law_other.mono (by decide)) (pure_bentstep)
  have c_law_bent_0 : Cal P w K mg base 1 "_law_bent" (spBent 0) := nv_law_bent T (fun vs H Q E ⟨_, _, _, _, _, _, _, _, _, _, _, _, _, _, h, _⟩ => by have h : _ < 2 * 0 := h; omega)
  have c_law_bent_1 : Cal P w K mg base 4 "_law_bent" (spBent 1) := mk_law_bent (j := 3) T (c_law_draw.mono (by decide)) (c_law_bent_0.mono (by decide)) (c_law_bent_step.mono (by decide)) (pure_bent)
  have c_law_bent_2 : Cal P w K mg base 5 "_law_bent" (spBent 2) := mk_law_bent (j := 4) T (c_law_draw.mono (by decide)) (c_law_bent_1.mono (by decide)) (c_law_bent_step.mono (by decide)) (pure_bent)
  have c_law_bent_3 : Cal P w K mg base 6 "_law_bent" (spBent 3) := mk_law_bent (j := 5) T (c_law_draw.mono (by decide)) (c_law_bent_2.mono (by decide)) (c_law_bent_step.mono (by decide)) (pure_bent)
  have c_law_bent_4 : Cal P w K mg base 7 "_law_bent" (spBent 4) := mk_law_bent (j := 6) T (c_law_draw.mono (by decide)) (c_law_bent_3.mono (by decide)) (c_law_bent_step.mono (by decide)) (pure_bent)
  have c_law_bent_5 : Cal P w K mg base 8 "_law_bent" (spBent 5) := mk_law_bent (j := 7) T (c_law_draw.mono (by decide)) (c_law_bent_4.mono (by decide)) (c_law_bent_step.mono (by decide)) (pure_bent)
  have c_law_bent_6 : Cal P w K mg base 9 "_law_bent" (spBent 6) := mk_law_bent (j := 8) T (c_law_draw.mono (by decide)) (c_law_bent_5.mono (by decide)) (c_law_bent_step.mono (by decide)) (pure_bent)
  have c_law_bent_7 : Cal P w K mg base 10 "_law_bent" (spBent 7) := mk_law_bent (j := 9) T (c_law_draw.mono (by decide)) (c_law_bent_6.mono (by decide)) (c_law_bent_step.mono (by decide)) (pure_bent)
  have c_law_bent_8 : Cal P w K mg base 11 "_law_bent" (spBent 8) := mk_law_bent (j := 10) T (c_law_draw.mono (by decide)) (c_law_bent_7.mono (by decide)) (c_law_bent_step.mono (by decide)) (pure_bent)
  have c_law_bent_9 : Cal P w K mg base 12 "_law_bent" (spBent 9) := mk_law_bent (j := 11) T (c_law_draw.mono (by decide)) (c_law_bent_8.mono (by decide)) (c_law_bent_step.mono (by decide)) (pure_bent)
  have c_law_bent_10 : Cal P w K mg base 13 "_law_bent" (spBent 10) := mk_law_bent (j := 12) T (c_law_draw.mono (by decide)) (c_law_bent_9.mono (by decide)) (c_law_bent_step.mono (by decide)) (pure_bent)
  have c_law_bent_11 : Cal P w K mg base 14 "_law_bent" (spBent 11) := mk_law_bent (j := 13) T (c_law_draw.mono (by decide)) (c_law_bent_10.mono (by decide)) (c_law_bent_step.mono (by decide)) (pure_bent)
  have c_law_bent_12 : Cal P w K mg base 15 "_law_bent" (spBent 12) := mk_law_bent (j := 14) T (c_law_draw.mono (by decide)) (c_law_bent_11.mono (by decide)) (c_law_bent_step.mono (by decide)) (pure_bent)
  have c_law_bent_13 : Cal P w K mg base 16 "_law_bent" (spBent 13) := mk_law_bent (j := 15) T (c_law_draw.mono (by decide)) (c_law_bent_12.mono (by decide)) (c_law_bent_step.mono (by decide)) (pure_bent)
  have c_law_bent_14 : Cal P w K mg base 17 "_law_bent" (spBent 14) := mk_law_bent (j := 16) T (c_law_draw.mono (by decide)) (c_law_bent_13.mono (by decide)) (c_law_bent_step.mono (by decide)) (pure_bent)
  have c_law_bent := c_law_bent_14
  have c_law_same : CalG P w K mg base 1 "_law_same" (spSame K) := mk_law_same (j := 0) T  (pure_same)
  have c_law_met : CalG P w K mg base 2 "_law_met" (spMet) := mk_law_met (j := 1) T (c_law_same.mono (by decide)) (pure_met)
  have c_law_ends_0 : CalG P w K mg base 1 "_law_ends" (spEndsL 0) := nv_law_ends T (fun vs H Q E ⟨_, _, _, _, _, _, p, _, _, _, _, _, _, h, _⟩ => by have := p.mxd_kids; omega)
  have c_law_turned_1 : CalG P w K mg base 2 "_law_turned" (spTurned 0) := mk_law_turned (j := 1) T (c_law_same.mono (by decide)) (c_law_ends_0.mono (by decide)) (pure_turned)
  have c_law_ends_1 : CalG P w K mg base 26 "_law_ends" (spEndsL 1) := mk_law_ends (j := 25) T (c_law_met.mono (by decide)) (c_law_built.mono (by decide)) (c_law_opened.mono (by decide)) (c_law_ends_0.mono (by decide)) (c_law_turned_1.mono (by decide)) (pure_lends)
  have c_law_turned_2 : CalG P w K mg base 27 "_law_turned" (spTurned 1) := mk_law_turned (j := 26) T (c_law_same.mono (by decide)) (c_law_ends_1.mono (by decide)) (pure_turned)
  have c_law_ends_2 : CalG P w K mg base 28 "_law_ends" (spEndsL 2) := mk_law_ends (j := 27) T (c_law_met.mono (by decide)) (c_law_built.mono (by decide)) (c_law_opened.mono (by decide)) (c_law_ends_1.mono (by decide)) (c_law_turned_2.mono (by decide)) (pure_lends)
  have c_law_turned_3 : CalG P w K mg base 29 "_law_turned" (spTurned 2) := mk_law_turned (j := 28) T (c_law_same.mono (by decide)) (c_law_ends_2.mono (by decide)) (pure_turned)
  have c_law_ends_3 : CalG P w K mg base 30 "_law_ends" (spEndsL 3) := mk_law_ends (j := 29) T (c_law_met.mono (by decide)) (c_law_built.mono (by decide)) (c_law_opened.mono (by decide)) (c_law_ends_2.mono (by decide)) (c_law_turned_3.mono (by decide)) (pure_lends)
  have c_law_turned_4 : CalG P w K mg base 31 "_law_turned" (spTurned 3) := mk_law_turned (j := 30) T (c_law_same.mono (by decide)) (c_law_ends_3.mono (by decide)) (pure_turned)
  have c_law_ends_4 : CalG P w K mg base 32 "_law_ends" (spEndsL 4) := mk_law_ends (j := 31) T (c_law_met.mono (by decide)) (c_law_built.mono (by decide)) (c_law_opened.mono (by decide)) (c_law_ends_3.mono (by decide)) (c_law_turned_4.mono (by decide)) (pure_lends)
  have c_law_turned_5 : CalG P w K mg base 33 "_law_turned" (spTurned 4) := mk_law_turned (j := 32) T (c_law_same.mono (by decide)) (c_law_ends_4.mono (by decide)) (pure_turned)
  have c_law_ends_5 : CalG P w K mg base 34 "_law_ends" (spEndsL 5) := mk_law_ends (j := 33) T (c_law_met.mono (by decide)) (c_law_built.mono (by decide)) (c_law_opened.mono (by decide)) (c_law_ends_4.mono (by decide)) (c_law_turned_5.mono (by decide)) (pure_lends)
  have c_law_turned_6 : CalG P w K mg base 35 "_law_turned" (spTurned 5) := mk_law_turned (j := 34) T (c_law_same.mono (by decide)) (c_law_ends_5.mono (by decide)) (pure_turned)
  have c_law_ends_6 : CalG P w K mg base 36 "_law_ends" (spEndsL 6) := mk_law_ends (j := 35) T (c_law_met.mono (by decide)) (c_law_built.mono (by decide)) (c_law_opened.mono (by decide)) (c_law_ends_5.mono (by decide)) (c_law_turned_6.mono (by decide)) (pure_lends)
  have c_law_turned_7 : CalG P w K mg base 37 "_law_turned" (spTurned 6) := mk_law_turned (j := 36) T (c_law_same.mono (by decide)) (c_law_ends_6.mono (by decide)) (pure_turned)
  have c_law_ends_7 : CalG P w K mg base 38 "_law_ends" (spEndsL 7) := mk_law_ends (j := 37) T (c_law_met.mono (by decide)) (c_law_built.mono (by decide)) (c_law_opened.mono (by decide)) (c_law_ends_6.mono (by decide)) (c_law_turned_7.mono (by decide)) (pure_lends)
  have c_law_turned_8 : CalG P w K mg base 39 "_law_turned" (spTurned 7) := mk_law_turned (j := 38) T (c_law_same.mono (by decide)) (c_law_ends_7.mono (by decide)) (pure_turned)
  have c_law_ends_8 : CalG P w K mg base 40 "_law_ends" (spEndsL 8) := mk_law_ends (j := 39) T (c_law_met.mono (by decide)) (c_law_built.mono (by decide)) (c_law_opened.mono (by decide)) (c_law_ends_7.mono (by decide)) (c_law_turned_8.mono (by decide)) (pure_lends)
  have c_law_turned_9 : CalG P w K mg base 41 "_law_turned" (spTurned 8) := mk_law_turned (j := 40) T (c_law_same.mono (by decide)) (c_law_ends_8.mono (by decide)) (pure_turned)
  have c_law_ends_9 : CalG P w K mg base 42 "_law_ends" (spEndsL 9) := mk_law_ends (j := 41) T (c_law_met.mono (by decide)) (c_law_built.mono (by decide)) (c_law_opened.mono (by decide)) (c_law_ends_8.mono (by decide)) (c_law_turned_9.mono (by decide)) (pure_lends)
  have c_law_turned_10 : CalG P w K mg base 43 "_law_turned" (spTurned 9) := mk_law_turned (j := 42) T (c_law_same.mono (by decide)) (c_law_ends_9.mono (by decide)) (pure_turned)
  have c_law_ends_10 : CalG P w K mg base 44 "_law_ends" (spEndsL 10) := mk_law_ends (j := 43) T (c_law_met.mono (by decide)) (c_law_built.mono (by decide)) (c_law_opened.mono (by decide)) (c_law_ends_9.mono (by decide)) (c_law_turned_10.mono (by decide)) (pure_lends)
  have c_law_turned_11 : CalG P w K mg base 45 "_law_turned" (spTurned 10) := mk_law_turned (j := 44) T (c_law_same.mono (by decide)) (c_law_ends_10.mono (by decide)) (pure_turned)
  have c_law_ends_11 : CalG P w K mg base 46 "_law_ends" (spEndsL 11) := mk_law_ends (j := 45) T (c_law_met.mono (by decide)) (c_law_built.mono (by decide)) (c_law_opened.mono (by decide)) (c_law_ends_10.mono (by decide)) (c_law_turned_11.mono (by decide)) (pure_lends)
  have c_law_turned_12 : CalG P w K mg base 47 "_law_turned" (spTurned 11) := mk_law_turned (j := 46) T (c_law_same.mono (by decide)) (c_law_ends_11.mono (by decide)) (pure_turned)
  have c_law_ends_12 : CalG P w K mg base 48 "_law_ends" (spEndsL 12) := mk_law_ends (j := 47) T (c_law_met.mono (by decide)) (c_law_built.mono (by decide)) (c_law_opened.mono (by decide)) (c_law_ends_11.mono (by decide)) (c_law_turned_12.mono (by decide)) (pure_lends)
  have c_law_turned := c_law_turned_12
  have c_law_ends := c_law_ends_12
  have c_law_let_by : CalG P w K mg base 49 "_law_let_by" (spLLetBy) := mk_law_let_by (j := 48) T (c_law_same.mono (by decide)) (c_law_body_of.mono (by decide)) (c_law_ends.mono (by decide)) (c_law_ways.mono (by decide)) (pure_lletby)
  have c_is_alike_0 : Cal P w K mg base 1 "is_alike" (spAlike 0) := nv_is_alike T (fun vs H Q E ⟨_, _, _, _, _, _, _, h, _⟩ => nomatch h)
  have c_is_alike_1 : Cal P w K mg base 2 "is_alike" (spAlike 1) := mk_is_alike (j := 1) T (c_is_alike_0.mono (by decide)) (pure_alike)
  have c_is_alike_2 : Cal P w K mg base 3 "is_alike" (spAlike 2) := mk_is_alike (j := 2) T (c_is_alike_1.mono (by decide)) (pure_alike)
  have c_is_alike_3 : Cal P w K mg base 4 "is_alike" (spAlike 3) := mk_is_alike (j := 3) T (c_is_alike_2.mono (by decide)) (pure_alike)
  have c_is_alike := c_is_alike_3
  have c_bodies : Cal P w K mg base 1 "bodies" (spBodiesR) := mk_bodies (j := 0) T  (pure_bodiesR)
  have c_number_of : Cal P w K mg base 1 "number_of" (spNum) := mk_number_of (j := 0) T  (pure_num)
  have c_body_of : Cal P w K mg base 2 "body_of" (spBodyOfR) := mk_body_of (j := 1) T (c_bodies.mono (by decide)) (c_number_of.mono (by decide)) (pure_bodyofR)
  have c_things_of : Cal P w K mg base 2 "things_of" (spThings) := mk_things_of (j := 1) T (c_number_of.mono (by decide)) (pure_things)
  have c_within : Cal P w K mg base 1 "within" (spKids) := mk_within (j := 0) T  (pure_within T.k_PARTS)
  have c_in_order : Cal P w K mg base 2 "in_order" (spOrder) := mk_in_order (j := 1) T (c_within.mono (by decide)) (pure_order)
  have c_house_of : Cal P w K mg base 3 "house_of" (spHouse) := mk_house_of (j := 2) T (c_body_of.mono (by decide)) (c_things_of.mono (by decide)) (c_in_order.mono (by decide)) (pure_house)
  have c_behind_all : Cal P w K mg base 5 "behind_all" (spBehind) := mk_behind_all (j := 4) T (c_is_alike.mono (by decide)) (pure_behind)
  have c_is_turn : Cal P w K mg base 5 "is_turn" (spIsTurn) := mk_is_turn (j := 4) T (c_is_alike.mono (by decide)) (pure_isturn)
  have c_building_0 : Cal P w K mg base 1 "building" (spBuild 0) := nv_building T (fun vs H Q E ⟨_, p, _, _, _, _, _, _, h, _⟩ => by have := p.mxd_kids; omega)
  have c_opening_1 : Cal P w K mg base 2 "opening" (spOpen 0) := mk_opening (j := 1) T (c_building_0.mono (by decide)) (pure_opening)
  have c_building_1 : Cal P w K mg base 3 "building" (spBuild 1) := mk_building (j := 2) T (c_opening_1.mono (by decide)) (c_building_0.mono (by decide)) (c_within.mono (by decide)) (pure_building)
  have c_opening_2 : Cal P w K mg base 4 "opening" (spOpen 1) := mk_opening (j := 3) T (c_building_1.mono (by decide)) (pure_opening)
  have c_building_2 : Cal P w K mg base 5 "building" (spBuild 2) := mk_building (j := 4) T (c_opening_2.mono (by decide)) (c_building_1.mono (by decide)) (c_within.mono (by decide)) (pure_building)
  have c_opening_3 : Cal P w K mg base 6 "opening" (spOpen 2) := mk_opening (j := 5) T (c_building_2.mono (by decide)) (pure_opening)
  have c_building_3 : Cal P w K mg base 7 "building" (spBuild 3) := mk_building (j := 6) T (c_opening_3.mono (by decide)) (c_building_2.mono (by decide)) (c_within.mono (by decide)) (pure_building)
  have c_opening_4 : Cal P w K mg base 8 "opening" (spOpen 3) := mk_opening (j := 7) T (c_building_3.mono (by decide)) (pure_opening)
  have c_building_4 : Cal P w K mg base 9 "building" (spBuild 4) := mk_building (j := 8) T (c_opening_4.mono (by decide)) (c_building_3.mono (by decide)) (c_within.mono (by decide)) (pure_building)
  have c_opening_5 : Cal P w K mg base 10 "opening" (spOpen 4) := mk_opening (j := 9) T (c_building_4.mono (by decide)) (pure_opening)
  have c_building_5 : Cal P w K mg base 11 "building" (spBuild 5) := mk_building (j := 10) T (c_opening_5.mono (by decide)) (c_building_4.mono (by decide)) (c_within.mono (by decide)) (pure_building)
  have c_opening_6 : Cal P w K mg base 12 "opening" (spOpen 5) := mk_opening (j := 11) T (c_building_5.mono (by decide)) (pure_opening)
  have c_building_6 : Cal P w K mg base 13 "building" (spBuild 6) := mk_building (j := 12) T (c_opening_6.mono (by decide)) (c_building_5.mono (by decide)) (c_within.mono (by decide)) (pure_building)
  have c_opening_7 : Cal P w K mg base 14 "opening" (spOpen 6) := mk_opening (j := 13) T (c_building_6.mono (by decide)) (pure_opening)
  have c_building_7 : Cal P w K mg base 15 "building" (spBuild 7) := mk_building (j := 14) T (c_opening_7.mono (by decide)) (c_building_6.mono (by decide)) (c_within.mono (by decide)) (pure_building)
  have c_opening_8 : Cal P w K mg base 16 "opening" (spOpen 7) := mk_opening (j := 15) T (c_building_7.mono (by decide)) (pure_opening)
  have c_building_8 : Cal P w K mg base 17 "building" (spBuild 8) := mk_building (j := 16) T (c_opening_8.mono (by decide)) (c_building_7.mono (by decide)) (c_within.mono (by decide)) (pure_building)
  have c_opening_9 : Cal P w K mg base 18 "opening" (spOpen 8) := mk_opening (j := 17) T (c_building_8.mono (by decide)) (pure_opening)
  have c_building_9 : Cal P w K mg base 19 "building" (spBuild 9) := mk_building (j := 18) T (c_opening_9.mono (by decide)) (c_building_8.mono (by decide)) (c_within.mono (by decide)) (pure_building)
  have c_opening_10 : Cal P w K mg base 20 "opening" (spOpen 9) := mk_opening (j := 19) T (c_building_9.mono (by decide)) (pure_opening)
  have c_building_10 : Cal P w K mg base 21 "building" (spBuild 10) := mk_building (j := 20) T (c_opening_10.mono (by decide)) (c_building_9.mono (by decide)) (c_within.mono (by decide)) (pure_building)
  have c_opening_11 : Cal P w K mg base 22 "opening" (spOpen 10) := mk_opening (j := 21) T (c_building_10.mono (by decide)) (pure_opening)
  have c_building_11 : Cal P w K mg base 23 "building" (spBuild 11) := mk_building (j := 22) T (c_opening_11.mono (by decide)) (c_building_10.mono (by decide)) (c_within.mono (by decide)) (pure_building)
  have c_opening_12 : Cal P w K mg base 24 "opening" (spOpen 11) := mk_opening (j := 23) T (c_building_11.mono (by decide)) (pure_opening)
  have c_building_12 : Cal P w K mg base 25 "building" (spBuild 12) := mk_building (j := 24) T (c_opening_12.mono (by decide)) (c_building_11.mono (by decide)) (c_within.mono (by decide)) (pure_building)
  have c_opening := c_opening_12
  have c_building := c_building_12
  have c_doings_0 : Cal P w K mg base 1 "doings" (spDoings 0) := nv_doings T (fun vs H Q E ⟨_, _, _, _, _, p, _, _, _, _, _, _, h, _⟩ => by have := p.mxd_kids; omega)
  have c_endings_0 : Cal P w K mg base 1 "endings" (spEndings 0) := nv_endings T (fun vs H Q E ⟨_, _, _, _, _, p, _, _, _, _, _, h, _⟩ => by have := p.mxd_kids; omega)
  have c_doings_all_1 : Cal P w K mg base 2 "doings_all" (spDoingsAll 0) := mk_doings_all (j := 1) T (c_doings_0.mono (by decide)) (pure_doingsall)
  have c_sums_end_1 : Cal P w K mg base 6 "sums_end" (spSums 0) := mk_sums_end (j := 5) T (c_doings_0.mono (by decide)) (c_doings_all_1.mono (by decide)) (c_behind_all.mono (by decide)) (pure_sumsend)
  have c_sides_end_1 : Cal P w K mg base 6 "sides_end" (spSides 0) := mk_sides_end (j := 5) T (c_doings_0.mono (by decide)) (c_behind_all.mono (by decide)) (pure_sidesend)
  have c_is_one_1 : Cal P w K mg base 2 "is_one" (spIsOne 0) := mk_is_one (j := 1) T (c_endings_0.mono (by decide)) (c_doings_0.mono (by decide)) (pure_isone)
  have c_turns_end_1 : Cal P w K mg base 6 "turns_end" (spTurns 0) := mk_turns_end (j := 5) T (c_doings_0.mono (by decide)) (c_is_turn.mono (by decide)) (c_is_one_1.mono (by decide)) (pure_turnsend)
  have c_doings_1 : Cal P w K mg base 26 "doings" (spDoings 1) := mk_doings (j := 25) T (c_behind_all.mono (by decide)) (c_building.mono (by decide)) (c_sums_end_1.mono (by decide)) (c_turns_end_1.mono (by decide)) (c_sides_end_1.mono (by decide)) (c_opening.mono (by decide)) (c_doings_0.mono (by decide)) (pure_doings T.t_OPERATIONS T.t_SIDES)
  have c_endings_1 : Cal P w K mg base 26 "endings" (spEndings 1) := mk_endings (j := 25) T (c_behind_all.mono (by decide)) (c_building.mono (by decide)) (c_sums_end_1.mono (by decide)) (c_turns_end_1.mono (by decide)) (c_sides_end_1.mono (by decide)) (c_opening.mono (by decide)) (c_endings_0.mono (by decide)) (pure_endings T.t_OPERATIONS T.t_SIDES)
  have c_doings_all_2 : Cal P w K mg base 27 "doings_all" (spDoingsAll 1) := mk_doings_all (j := 26) T (c_doings_1.mono (by decide)) (pure_doingsall)
  have c_sums_end_2 : Cal P w K mg base 28 "sums_end" (spSums 1) := mk_sums_end (j := 27) T (c_doings_1.mono (by decide)) (c_doings_all_2.mono (by decide)) (c_behind_all.mono (by decide)) (pure_sumsend)
  have c_sides_end_2 : Cal P w K mg base 27 "sides_end" (spSides 1) := mk_sides_end (j := 26) T (c_doings_1.mono (by decide)) (c_behind_all.mono (by decide)) (pure_sidesend)
  have c_is_one_2 : Cal P w K mg base 27 "is_one" (spIsOne 1) := mk_is_one (j := 26) T (c_endings_1.mono (by decide)) (c_doings_1.mono (by decide)) (pure_isone)
  have c_turns_end_2 : Cal P w K mg base 28 "turns_end" (spTurns 1) := mk_turns_end (j := 27) T (c_doings_1.mono (by decide)) (c_is_turn.mono (by decide)) (c_is_one_2.mono (by decide)) (pure_turnsend)
  have c_doings_2 : Cal P w K mg base 29 "doings" (spDoings 2) := mk_doings (j := 28) T (c_behind_all.mono (by decide)) (c_building.mono (by decide)) (c_sums_end_2.mono (by decide)) (c_turns_end_2.mono (by decide)) (c_sides_end_2.mono (by decide)) (c_opening.mono (by decide)) (c_doings_1.mono (by decide)) (pure_doings T.t_OPERATIONS T.t_SIDES)
  have c_endings_2 : Cal P w K mg base 29 "endings" (spEndings 2) := mk_endings (j := 28) T (c_behind_all.mono (by decide)) (c_building.mono (by decide)) (c_sums_end_2.mono (by decide)) (c_turns_end_2.mono (by decide)) (c_sides_end_2.mono (by decide)) (c_opening.mono (by decide)) (c_endings_1.mono (by decide)) (pure_endings T.t_OPERATIONS T.t_SIDES)
  have c_doings_all_3 : Cal P w K mg base 30 "doings_all" (spDoingsAll 2) := mk_doings_all (j := 29) T (c_doings_2.mono (by decide)) (pure_doingsall)
  have c_sums_end_3 : Cal P w K mg base 31 "sums_end" (spSums 2) := mk_sums_end (j := 30) T (c_doings_2.mono (by decide)) (c_doings_all_3.mono (by decide)) (c_behind_all.mono (by decide)) (pure_sumsend)
  have c_sides_end_3 : Cal P w K mg base 30 "sides_end" (spSides 2) := mk_sides_end (j := 29) T (c_doings_2.mono (by decide)) (c_behind_all.mono (by decide)) (pure_sidesend)
  have c_is_one_3 : Cal P w K mg base 30 "is_one" (spIsOne 2) := mk_is_one (j := 29) T (c_endings_2.mono (by decide)) (c_doings_2.mono (by decide)) (pure_isone)
  have c_turns_end_3 : Cal P w K mg base 31 "turns_end" (spTurns 2) := mk_turns_end (j := 30) T (c_doings_2.mono (by decide)) (c_is_turn.mono (by decide)) (c_is_one_3.mono (by decide)) (pure_turnsend)
  have c_doings_3 : Cal P w K mg base 32 "doings" (spDoings 3) := mk_doings (j := 31) T (c_behind_all.mono (by decide)) (c_building.mono (by decide)) (c_sums_end_3.mono (by decide)) (c_turns_end_3.mono (by decide)) (c_sides_end_3.mono (by decide)) (c_opening.mono (by decide)) (c_doings_2.mono (by decide)) (pure_doings T.t_OPERATIONS T.t_SIDES)
  have c_endings_3 : Cal P w K mg base 32 "endings" (spEndings 3) := mk_endings (j := 31) T (c_behind_all.mono (by decide)) (c_building.mono (by decide)) (c_sums_end_3.mono (by decide)) (c_turns_end_3.mono (by decide)) (c_sides_end_3.mono (by decide)) (c_opening.mono (by decide)) (c_endings_2.mono (by decide)) (pure_endings T.t_OPERATIONS T.t_SIDES)
  have c_doings_all_4 : Cal P w K mg base 33 "doings_all" (spDoingsAll 3) := mk_doings_all (j := 32) T (c_doings_3.mono (by decide)) (pure_doingsall)
  have c_sums_end_4 : Cal P w K mg base 34 "sums_end" (spSums 3) := mk_sums_end (j := 33) T (c_doings_3.mono (by decide)) (c_doings_all_4.mono (by decide)) (c_behind_all.mono (by decide)) (pure_sumsend)
  have c_sides_end_4 : Cal P w K mg base 33 "sides_end" (spSides 3) := mk_sides_end (j := 32) T (c_doings_3.mono (by decide)) (c_behind_all.mono (by decide)) (pure_sidesend)
  have c_is_one_4 : Cal P w K mg base 33 "is_one" (spIsOne 3) := mk_is_one (j := 32) T (c_endings_3.mono (by decide)) (c_doings_3.mono (by decide)) (pure_isone)
  have c_turns_end_4 : Cal P w K mg base 34 "turns_end" (spTurns 3) := mk_turns_end (j := 33) T (c_doings_3.mono (by decide)) (c_is_turn.mono (by decide)) (c_is_one_4.mono (by decide)) (pure_turnsend)
  have c_doings_4 : Cal P w K mg base 35 "doings" (spDoings 4) := mk_doings (j := 34) T (c_behind_all.mono (by decide)) (c_building.mono (by decide)) (c_sums_end_4.mono (by decide)) (c_turns_end_4.mono (by decide)) (c_sides_end_4.mono (by decide)) (c_opening.mono (by decide)) (c_doings_3.mono (by decide)) (pure_doings T.t_OPERATIONS T.t_SIDES)
  have c_endings_4 : Cal P w K mg base 35 "endings" (spEndings 4) := mk_endings (j := 34) T (c_behind_all.mono (by decide)) (c_building.mono (by decide)) (c_sums_end_4.mono (by decide)) (c_turns_end_4.mono (by decide)) (c_sides_end_4.mono (by decide)) (c_opening.mono (by decide)) (c_endings_3.mono (by decide)) (pure_endings T.t_OPERATIONS T.t_SIDES)
  have c_doings_all_5 : Cal P w K mg base 36 "doings_all" (spDoingsAll 4) := mk_doings_all (j := 35) T (c_doings_4.mono (by decide)) (pure_doingsall)
  have c_sums_end_5 : Cal P w K mg base 37 "sums_end" (spSums 4) := mk_sums_end (j := 36) T (c_doings_4.mono (by decide)) (c_doings_all_5.mono (by decide)) (c_behind_all.mono (by decide)) (pure_sumsend)
  have c_sides_end_5 : Cal P w K mg base 36 "sides_end" (spSides 4) := mk_sides_end (j := 35) T (c_doings_4.mono (by decide)) (c_behind_all.mono (by decide)) (pure_sidesend)
  have c_is_one_5 : Cal P w K mg base 36 "is_one" (spIsOne 4) := mk_is_one (j := 35) T (c_endings_4.mono (by decide)) (c_doings_4.mono (by decide)) (pure_isone)
  have c_turns_end_5 : Cal P w K mg base 37 "turns_end" (spTurns 4) := mk_turns_end (j := 36) T (c_doings_4.mono (by decide)) (c_is_turn.mono (by decide)) (c_is_one_5.mono (by decide)) (pure_turnsend)
  have c_doings_5 : Cal P w K mg base 38 "doings" (spDoings 5) := mk_doings (j := 37) T (c_behind_all.mono (by decide)) (c_building.mono (by decide)) (c_sums_end_5.mono (by decide)) (c_turns_end_5.mono (by decide)) (c_sides_end_5.mono (by decide)) (c_opening.mono (by decide)) (c_doings_4.mono (by decide)) (pure_doings T.t_OPERATIONS T.t_SIDES)
  have c_endings_5 : Cal P w K mg base 38 "endings" (spEndings 5) := mk_endings (j := 37) T (c_behind_all.mono (by decide)) (c_building.mono (by decide)) (c_sums_end_5.mono (by decide)) (c_turns_end_5.mono (by decide)) (c_sides_end_5.mono (by decide)) (c_opening.mono (by decide)) (c_endings_4.mono (by decide)) (pure_endings T.t_OPERATIONS T.t_SIDES)
  have c_doings_all_6 : Cal P w K mg base 39 "doings_all" (spDoingsAll 5) := mk_doings_all (j := 38) T (c_doings_5.mono (by decide)) (pure_doingsall)
  have c_sums_end_6 : Cal P w K mg base 40 "sums_end" (spSums 5) := mk_sums_end (j := 39) T (c_doings_5.mono (by decide)) (c_doings_all_6.mono (by decide)) (c_behind_all.mono (by decide)) (pure_sumsend)
  have c_sides_end_6 : Cal P w K mg base 39 "sides_end" (spSides 5) := mk_sides_end (j := 38) T (c_doings_5.mono (by decide)) (c_behind_all.mono (by decide)) (pure_sidesend)
  have c_is_one_6 : Cal P w K mg base 39 "is_one" (spIsOne 5) := mk_is_one (j := 38) T (c_endings_5.mono (by decide)) (c_doings_5.mono (by decide)) (pure_isone)
  have c_turns_end_6 : Cal P w K mg base 40 "turns_end" (spTurns 5) := mk_turns_end (j := 39) T (c_doings_5.mono (by decide)) (c_is_turn.mono (by decide)) (c_is_one_6.mono (by decide)) (pure_turnsend)
  have c_doings_6 : Cal P w K mg base 41 "doings" (spDoings 6) := mk_doings (j := 40) T (c_behind_all.mono (by decide)) (c_building.mono (by decide)) (c_sums_end_6.mono (by decide)) (c_turns_end_6.mono (by decide)) (c_sides_end_6.mono (by decide)) (c_opening.mono (by decide)) (c_doings_5.mono (by decide)) (pure_doings T.t_OPERATIONS T.t_SIDES)
  have c_endings_6 : Cal P w K mg base 41 "endings" (spEndings 6) := mk_endings (j := 40) T (c_behind_all.mono (by decide)) (c_building.mono (by decide)) (c_sums_end_6.mono (by decide)) (c_turns_end_6.mono (by decide)) (c_sides_end_6.mono (by decide)) (c_opening.mono (by decide)) (c_endings_5.mono (by decide)) (pure_endings T.t_OPERATIONS T.t_SIDES)
  have c_doings_all_7 : Cal P w K mg base 42 "doings_all" (spDoingsAll 6) := mk_doings_all (j := 41) T (c_doings_6.mono (by decide)) (pure_doingsall)
  have c_sums_end_7 : Cal P w K mg base 43 "sums_end" (spSums 6) := mk_sums_end (j := 42) T (c_doings_6.mono (by decide)) (c_doings_all_7.mono (by decide)) (c_behind_all.mono (by decide)) (pure_sumsend)
  have c_sides_end_7 : Cal P w K mg base 42 "sides_end" (spSides 6) := mk_sides_end (j := 41) T (c_doings_6.mono (by decide)) (c_behind_all.mono (by decide)) (pure_sidesend)
  have c_is_one_7 : Cal P w K mg base 42 "is_one" (spIsOne 6) := mk_is_one (j := 41) T (c_endings_6.mono (by decide)) (c_doings_6.mono (by decide)) (pure_isone)
  have c_turns_end_7 : Cal P w K mg base 43 "turns_end" (spTurns 6) := mk_turns_end (j := 42) T (c_doings_6.mono (by decide)) (c_is_turn.mono (by decide)) (c_is_one_7.mono (by decide)) (pure_turnsend)
  have c_doings_7 : Cal P w K mg base 44 "doings" (spDoings 7) := mk_doings (j := 43) T (c_behind_all.mono (by decide)) (c_building.mono (by decide)) (c_sums_end_7.mono (by decide)) (c_turns_end_7.mono (by decide)) (c_sides_end_7.mono (by decide)) (c_opening.mono (by decide)) (c_doings_6.mono (by decide)) (pure_doings T.t_OPERATIONS T.t_SIDES)
  have c_endings_7 : Cal P w K mg base 44 "endings" (spEndings 7) := mk_endings (j := 43) T (c_behind_all.mono (by decide)) (c_building.mono (by decide)) (c_sums_end_7.mono (by decide)) (c_turns_end_7.mono (by decide)) (c_sides_end_7.mono (by decide)) (c_opening.mono (by decide)) (c_endings_6.mono (by decide)) (pure_endings T.t_OPERATIONS T.t_SIDES)
  have c_doings_all_8 : Cal P w K mg base 45 "doings_all" (spDoingsAll 7) := mk_doings_all (j := 44) T (c_doings_7.mono (by decide)) (pure_doingsall)
  have c_sums_end_8 : Cal P w K mg base 46 "sums_end" (spSums 7) := mk_sums_end (j := 45) T (c_doings_7.mono (by decide)) (c_doings_all_8.mono (by decide)) (c_behind_all.mono (by decide)) (pure_sumsend)
  have c_sides_end_8 : Cal P w K mg base 45 "sides_end" (spSides 7) := mk_sides_end (j := 44) T (c_doings_7.mono (by decide)) (c_behind_all.mono (by decide)) (pure_sidesend)
  have c_is_one_8 : Cal P w K mg base 45 "is_one" (spIsOne 7) := mk_is_one (j := 44) T (c_endings_7.mono (by decide)) (c_doings_7.mono (by decide)) (pure_isone)
  have c_turns_end_8 : Cal P w K mg base 46 "turns_end" (spTurns 7) := mk_turns_end (j := 45) T (c_doings_7.mono (by decide)) (c_is_turn.mono (by decide)) (c_is_one_8.mono (by decide)) (pure_turnsend)
  have c_doings_8 : Cal P w K mg base 47 "doings" (spDoings 8) := mk_doings (j := 46) T (c_behind_all.mono (by decide)) (c_building.mono (by decide)) (c_sums_end_8.mono (by decide)) (c_turns_end_8.mono (by decide)) (c_sides_end_8.mono (by decide)) (c_opening.mono (by decide)) (c_doings_7.mono (by decide)) (pure_doings T.t_OPERATIONS T.t_SIDES)
  have c_endings_8 : Cal P w K mg base 47 "endings" (spEndings 8) := mk_endings (j := 46) T (c_behind_all.mono (by decide)) (c_building.mono (by decide)) (c_sums_end_8.mono (by decide)) (c_turns_end_8.mono (by decide)) (c_sides_end_8.mono (by decide)) (c_opening.mono (by decide)) (c_endings_7.mono (by decide)) (pure_endings T.t_OPERATIONS T.t_SIDES)
  have c_doings_all_9 : Cal P w K mg base 48 "doings_all" (spDoingsAll 8) := mk_doings_all (j := 47) T (c_doings_8.mono (by decide)) (pure_doingsall)
  have c_sums_end_9 : Cal P w K mg base 49 "sums_end" (spSums 8) := mk_sums_end (j := 48) T (c_doings_8.mono (by decide)) (c_doings_all_9.mono (by decide)) (c_behind_all.mono (by decide)) (pure_sumsend)
  have c_sides_end_9 : Cal P w K mg base 48 "sides_end" (spSides 8) := mk_sides_end (j := 47) T (c_doings_8.mono (by decide)) (c_behind_all.mono (by decide)) (pure_sidesend)
  have c_is_one_9 : Cal P w K mg base 48 "is_one" (spIsOne 8) := mk_is_one (j := 47) T (c_endings_8.mono (by decide)) (c_doings_8.mono (by decide)) (pure_isone)
  have c_turns_end_9 : Cal P w K mg base 49 "turns_end" (spTurns 8) := mk_turns_end (j := 48) T (c_doings_8.mono (by decide)) (c_is_turn.mono (by decide)) (c_is_one_9.mono (by decide)) (pure_turnsend)
  have c_doings_9 : Cal P w K mg base 50 "doings" (spDoings 9) := mk_doings (j := 49) T (c_behind_all.mono (by decide)) (c_building.mono (by decide)) (c_sums_end_9.mono (by decide)) (c_turns_end_9.mono (by decide)) (c_sides_end_9.mono (by decide)) (c_opening.mono (by decide)) (c_doings_8.mono (by decide)) (pure_doings T.t_OPERATIONS T.t_SIDES)
  have c_endings_9 : Cal P w K mg base 50 "endings" (spEndings 9) := mk_endings (j := 49) T (c_behind_all.mono (by decide)) (c_building.mono (by decide)) (c_sums_end_9.mono (by decide)) (c_turns_end_9.mono (by decide)) (c_sides_end_9.mono (by decide)) (c_opening.mono (by decide)) (c_endings_8.mono (by decide)) (pure_endings T.t_OPERATIONS T.t_SIDES)
  have c_doings_all_10 : Cal P w K mg base 51 "doings_all" (spDoingsAll 9) := mk_doings_all (j := 50) T (c_doings_9.mono (by decide)) (pure_doingsall)
  have c_sums_end_10 : Cal P w K mg base 52 "sums_end" (spSums 9) := mk_sums_end (j := 51) T (c_doings_9.mono (by decide)) (c_doings_all_10.mono (by decide)) (c_behind_all.mono (by decide)) (pure_sumsend)
  have c_sides_end_10 : Cal P w K mg base 51 "sides_end" (spSides 9) := mk_sides_end (j := 50) T (c_doings_9.mono (by decide)) (c_behind_all.mono (by decide)) (pure_sidesend)
  have c_is_one_10 : Cal P w K mg base 51 "is_one" (spIsOne 9) := mk_is_one (j := 50) T (c_endings_9.mono (by decide)) (c_doings_9.mono (by decide)) (pure_isone)
  have c_turns_end_10 : Cal P w K mg base 52 "turns_end" (spTurns 9) := mk_turns_end (j := 51) T (c_doings_9.mono (by decide)) (c_is_turn.mono (by decide)) (c_is_one_10.mono (by decide)) (pure_turnsend)
  have c_doings_10 : Cal P w K mg base 53 "doings" (spDoings 10) := mk_doings (j := 52) T (c_behind_all.mono (by decide)) (c_building.mono (by decide)) (c_sums_end_10.mono (by decide)) (c_turns_end_10.mono (by decide)) (c_sides_end_10.mono (by decide)) (c_opening.mono (by decide)) (c_doings_9.mono (by decide)) (pure_doings T.t_OPERATIONS T.t_SIDES)
  have c_endings_10 : Cal P w K mg base 53 "endings" (spEndings 10) := mk_endings (j := 52) T (c_behind_all.mono (by decide)) (c_building.mono (by decide)) (c_sums_end_10.mono (by decide)) (c_turns_end_10.mono (by decide)) (c_sides_end_10.mono (by decide)) (c_opening.mono (by decide)) (c_endings_9.mono (by decide)) (pure_endings T.t_OPERATIONS T.t_SIDES)
  have c_doings_all_11 : Cal P w K mg base 54 "doings_all" (spDoingsAll 10) := mk_doings_all (j := 53) T (c_doings_10.mono (by decide)) (pure_doingsall)
  have c_sums_end_11 : Cal P w K mg base 55 "sums_end" (spSums 10) := mk_sums_end (j := 54) T (c_doings_10.mono (by decide)) (c_doings_all_11.mono (by decide)) (c_behind_all.mono (by decide)) (pure_sumsend)
  have c_sides_end_11 : Cal P w K mg base 54 "sides_end" (spSides 10) := mk_sides_end (j := 53) T (c_doings_10.mono (by decide)) (c_behind_all.mono (by decide)) (pure_sidesend)
  have c_is_one_11 : Cal P w K mg base 54 "is_one" (spIsOne 10) := mk_is_one (j := 53) T (c_endings_10.mono (by decide)) (c_doings_10.mono (by decide)) (pure_isone)
  have c_turns_end_11 : Cal P w K mg base 55 "turns_end" (spTurns 10) := mk_turns_end (j := 54) T (c_doings_10.mono (by decide)) (c_is_turn.mono (by decide)) (c_is_one_11.mono (by decide)) (pure_turnsend)
  have c_doings_11 : Cal P w K mg base 56 "doings" (spDoings 11) := mk_doings (j := 55) T (c_behind_all.mono (by decide)) (c_building.mono (by decide)) (c_sums_end_11.mono (by decide)) (c_turns_end_11.mono (by decide)) (c_sides_end_11.mono (by decide)) (c_opening.mono (by decide)) (c_doings_10.mono (by decide)) (pure_doings T.t_OPERATIONS T.t_SIDES)
  have c_endings_11 : Cal P w K mg base 56 "endings" (spEndings 11) := mk_endings (j := 55) T (c_behind_all.mono (by decide)) (c_building.mono (by decide)) (c_sums_end_11.mono (by decide)) (c_turns_end_11.mono (by decide)) (c_sides_end_11.mono (by decide)) (c_opening.mono (by decide)) (c_endings_10.mono (by decide)) (pure_endings T.t_OPERATIONS T.t_SIDES)
  have c_doings_all_12 : Cal P w K mg base 57 "doings_all" (spDoingsAll 11) := mk_doings_all (j := 56) T (c_doings_11.mono (by decide)) (pure_doingsall)
  have c_sums_end_12 : Cal P w K mg base 58 "sums_end" (spSums 11) := mk_sums_end (j := 57) T (c_doings_11.mono (by decide)) (c_doings_all_12.mono (by decide)) (c_behind_all.mono (by decide)) (pure_sumsend)
  have c_sides_end_12 : Cal P w K mg base 57 "sides_end" (spSides 11) := mk_sides_end (j := 56) T (c_doings_11.mono (by decide)) (c_behind_all.mono (by decide)) (pure_sidesend)
  have c_is_one_12 : Cal P w K mg base 57 "is_one" (spIsOne 11) := mk_is_one (j := 56) T (c_endings_11.mono (by decide)) (c_doings_11.mono (by decide)) (pure_isone)
  have c_turns_end_12 : Cal P w K mg base 58 "turns_end" (spTurns 11) := mk_turns_end (j := 57) T (c_doings_11.mono (by decide)) (c_is_turn.mono (by decide)) (c_is_one_12.mono (by decide)) (pure_turnsend)
  have c_doings_12 : Cal P w K mg base 59 "doings" (spDoings 12) := mk_doings (j := 58) T (c_behind_all.mono (by decide)) (c_building.mono (by decide)) (c_sums_end_12.mono (by decide)) (c_turns_end_12.mono (by decide)) (c_sides_end_12.mono (by decide)) (c_opening.mono (by decide)) (c_doings_11.mono (by decide)) (pure_doings T.t_OPERATIONS T.t_SIDES)
  have c_endings_12 : Cal P w K mg base 59 "endings" (spEndings 12) := mk_endings (j := 58) T (c_behind_all.mono (by decide)) (c_building.mono (by decide)) (c_sums_end_12.mono (by decide)) (c_turns_end_12.mono (by decide)) (c_sides_end_12.mono (by decide)) (c_opening.mono (by decide)) (c_endings_11.mono (by decide)) (pure_endings T.t_OPERATIONS T.t_SIDES)
  have c_doings_all_13 : Cal P w K mg base 60 "doings_all" (spDoingsAll 12) := mk_doings_all (j := 59) T (c_doings_12.mono (by decide)) (pure_doingsall)
  have c_sums_end_13 : Cal P w K mg base 61 "sums_end" (spSums 12) := mk_sums_end (j := 60) T (c_doings_12.mono (by decide)) (c_doings_all_13.mono (by decide)) (c_behind_all.mono (by decide)) (pure_sumsend)
  have c_sides_end_13 : Cal P w K mg base 60 "sides_end" (spSides 12) := mk_sides_end (j := 59) T (c_doings_12.mono (by decide)) (c_behind_all.mono (by decide)) (pure_sidesend)
  have c_is_one_13 : Cal P w K mg base 60 "is_one" (spIsOne 12) := mk_is_one (j := 59) T (c_endings_12.mono (by decide)) (c_doings_12.mono (by decide)) (pure_isone)
  have c_turns_end_13 : Cal P w K mg base 61 "turns_end" (spTurns 12) := mk_turns_end (j := 60) T (c_doings_12.mono (by decide)) (c_is_turn.mono (by decide)) (c_is_one_13.mono (by decide)) (pure_turnsend)
  have c_doings_13 : Cal P w K mg base 62 "doings" (spDoings 13) := mk_doings (j := 61) T (c_behind_all.mono (by decide)) (c_building.mono (by decide)) (c_sums_end_13.mono (by decide)) (c_turns_end_13.mono (by decide)) (c_sides_end_13.mono (by decide)) (c_opening.mono (by decide)) (c_doings_12.mono (by decide)) (pure_doings T.t_OPERATIONS T.t_SIDES)
  have c_endings_13 : Cal P w K mg base 62 "endings" (spEndings 13) := mk_endings (j := 61) T (c_behind_all.mono (by decide)) (c_building.mono (by decide)) (c_sums_end_13.mono (by decide)) (c_turns_end_13.mono (by decide)) (c_sides_end_13.mono (by decide)) (c_opening.mono (by decide)) (c_endings_12.mono (by decide)) (pure_endings T.t_OPERATIONS T.t_SIDES)
  have c_doings_all := c_doings_all_13
  have c_sums_end := c_sums_end_13
  have c_sides_end := c_sides_end_13
  have c_is_one := c_is_one_13
  have c_turns_end := c_turns_end_13
  have c_doings := c_doings_13
  have c_endings := c_endings_13
  have c_lets_by : Cal P w K mg base 61 "lets_by" (spLetsBy) := mk_lets_by (j := 60) T (c_is_alike.mono (by decide)) (c_house_of.mono (by decide)) (c_is_one.mono (by decide)) (pure_letsby)
  exact mkl_law (j := 61) F T (c_law_pen.mono (by decide)) (c_law_program.mono (by decide)) (c_law_functions.mono (by decide)) (c_law_draw.mono (by decide)) (c_law_ways.mono (by decide)) (c_law_body_of.mono (by decide)) (c_law_done.mono (by decide)) (c_law_built.mono (by decide)) (c_law_bent.mono (by decide)) (c_law_same.mono (by decide)) (c_law_let_by.mono (by decide)) (c_lets_by.mono (by decide)) (pure_law44)
end
end Lz
open PySem PySem.W PySem.Calls PyProof.Rows
theorem PySem.Challenge.cw_lazywebs_k44_bent_rows_holds : PySem.Challenge.rw_lazywebs_k44_bent_rows.Holds := by
  w_on; o_law
  refine HandSHeadRun.head_any (r := OpenLaw.row PySem.Challenge.rw_lazywebs_k44_bent_rows) (q := view (OpenLaw.row PySem.Challenge.rw_lazywebs_k44_bent_rows).prog [55]) (H := Lz.hk) (ob := Lz.ob) (M := 6000) (loose := Lz.hloose) (d := HandSHeadRun.topDef (OpenLaw.row PySem.Challenge.rw_lazywebs_k44_bent_rows).prog 55) (kwd := []) Lz.ob_eq
    (by kernel_rfl) (fun s => by kernel_rfl) Lz.hrun (by kernel_rfl) (by kernel_rfl) (by kernel_rfl) (by rfl) (by first | assumption | decide +kernel) (by decide +kernel) ⟨rfl, rfl, rfl, rfl, rfl, by decide +kernel⟩ ?hw ?hc
  case hw => w_witness2
  case hc =>
    refine Lz.walk_ofG (l := PySem.Challenge.rw_lazywebs_k44_bent_rows) (n := 63) (k := 62) (x := "_law_script") rfl (by decide) (by kernel_rfl) ⟨rfl, by decide, by decide⟩ ?F
    intro w mg fa h Y G hmg0
    obtain ⟨K, KX, c⟩ := Y
    have T := Lz.tx_mk KX G c
    have hmg : mg ("law" : PySem.Str) = some (.ref fa) := by
      have e : (HandSHeadRun.topDef (OpenLaw.row PySem.Challenge.rw_lazywebs_k44_bent_rows).prog 55).name = ("law" : PySem.Str) := by kernel_rfl
      rw [← e]
      exact hmg0
    have e := hmg.symm.trans T.f_law
    cases e
    obtain ⟨fd, F⟩ := T.d_law
    have b := L2.FunD.bindsA (ps := ["_law_script"]) F fun _ _ _ _ _ _ us hl => match us, hl with | [_], _ => rfl
    exact ⟨K, fd, Lz.spLaw K, KX, fun s u => b s [u] rfl, fun H a ns hl _ hS => ⟨a, ns, rfl, hS, hl, fun _ => rfl⟩, fun base _ _ => Lz.law_ok T F⟩
#print axioms PySem.Challenge.cw_lazywebs_k44_bent_rows_holds
