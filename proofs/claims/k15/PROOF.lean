import PyProof.Rows.All
import Wide.All
import OpenK.AllK
import Wide.FinOn
import PySem.Challenge.RW_threesfit_k15_first_rows_of_heaps
import HandS.ForMost
import HandS.ForExc
import HandS.Flow
import HandS.Style
import HandS.TupAny
import HandS.TupMul
import HandS.Deep
import HandS.IsInst
import HandS.TupLe
import KE.DataEq
import KE.DataFind
import PyProof.SeqIndex
import HandS.Conv
import HandS.EndTab
import HandS.AnyAll
import HandS.GenBody
import PyProof.GenQ
import HandS.HeadWalk
import HandS.HeadEnd
import HandS.HeadHook4
import HandS.Head0
import HandS.Head1
import HandS.Head2
import HandS.CallLocal
import HandS.SortInts
import HandS.SortOrd
import KE.GoesEnum
import HandS.Iter
import HandS.More
import HandS.Zip
import HandS.WideBits
import HandS.Struct
import KE.KMathG
import KE.KTupSum
import KE.DataMinMax
import HandS.Head3
set_option Elab.async false
set_option linter.all false
/-! from E0.lean -/
set_option maxRecDepth 100000
set_option maxHeartbeats 4000000
/-! Ev, part 0: tuples of which it is known that they bear no dict. -/
namespace Ev
open PySem PySem.Spec PyProof.Rows L2

/-- a tuple without a dict of its own: laid by the code, or the module's -/
def TpT (K : PySem.W.Frag) (G : Hp) (a : Addr) (xs : List V) : Prop :=
  (∃ ob : Obj, G a = some (.frz ob (.tup xs)) ∧ ob.dict = none) ∨
    ∃ (o : Obj) (its : Array Value) (n : Nat), K.lookup a = some o ∧ o.cls = .type "tuple" ∧ o.dict = none ∧ o.data = .seq its n ∧ its.size ≤ sizeLine ∧ Vals xs its.toList
theorem TpT.sq {K : PySem.W.Frag} {G : Hp} {a : Addr} {xs : List V} (h : TpT K G a xs) : SqT K G a xs := by
  rcases h with ⟨ob, h, _⟩ | ⟨o, its, n, h1, h2, _, h3⟩
  · exact .inl (.inr ⟨ob, h⟩)
  · exact .inr ⟨o, its, n, h1, h2, h3⟩
/-- a new one -/
def NewF (H : Hp) (Q : VK) (xs : List V) : Prop := ∀ (p : Addr) (ob : Obj), H p = none → ob.dict = none → Q (.ref p) (upd H p (.frz ob (.tup xs)))
section
variable {X : Cx} {pins : List (Addr × Obj)} {σ : L2.St} {H : Hp} {s : Shared} {Q : VK}
/-- it is laid at the heap's end -/
theorem tnew {xs : List V} {its : List Value} {t' : Nat} (I : Inv X pins σ H s) (r : Vals xs its) (hz : xs.length ≤ sizeLine) (q : NewF H Q xs) : EP X pins σ Q (.ref s.heap.objs.size) { s with heap := s.heap.push { cls := .type "tuple", data := .seq its.toArray }, toks := t' } := by
  have e := Heap.get?_push_size s.heap (o := { cls := .type "tuple", data := .seq its.toArray }) rfl
  have J := I.laid (a := s.heap.objs.size) (o := .frz { cls := .type "tuple", data := .seq its.toArray } (.tup xs)) (t' := t') (fun b u z => Heap.get?_push_of_some _ z) (Nat.le_refl _) ⟨e, hz, its, r, IsTup.new _ _⟩
  exact ⟨.ref _, _, J, rfl, q _ _ (I.hok.fresh (Nat.le_refl _)) rfl⟩
theorem TpT.bare (I : Inv X pins σ H s) {a : Addr} {xs : List V} (h : TpT X.K H a xs) : ∃ (its : List Value), Vals xs its ∧ IsTup s.heap a its.toArray ∧ xs.length ≤ sizeLine ∧ ∃ ob, s.heap.get? a = some ob ∧ ob.dict = none := by
  obtain ⟨its, r, t, z⟩ := I.tuple h.sq
  refine ⟨its, r, t, z, ?_⟩
  rcases h with ⟨ob, h, d⟩ | ⟨o, _, _, h, _, d, _⟩
  · exact ⟨ob, (I.hok a _ h).1, d⟩
  · exact ⟨o, I.kIn a o h, d⟩
end
section
variable {X : Cx}
/-- (e, ..) -/
def tTupF (t : TA) : TE := fun σ H Q => t σ H fun xs H1 => xs.length ≤ sizeLine ∧ NewF H1 Q xs
theorem pe_tupF {es : List Expr} {t : TA} {k : Nat} {pos : Pos} (h : PA X es t) : PE X (.Tuple es k pos) (tTupF t) :=
  ⟨fun pins s σ H Q I hq => wpAny_Tuple_spliced (thn (h.run pos pins s σ H _ I hq) fun us s1 ⟨xs, H1, J, r, z, q⟩ => ⟨r.length ▸ z, tnew (t' := s1.toks) J r z q⟩)⟩
/-- t + u -/
def rCatF (K : PySem.W.Frag) : R2 := fun x y H Q => ∃ a b xs ys, x = .ref a ∧ y = .ref b ∧ SqT K H a xs ∧ SqT K H b ys ∧ xs.length + ys.length ≤ sizeLine ∧ (xs = [] → Q (.ref b) H) ∧ (xs ≠ [] → ys = [] → Q (.ref a) H) ∧ NewF H Q (xs ++ ys)
theorem op_catF : OpR X (binaryOp .Add) (rCatF X.K) := by
  rintro pins s σ H x y v u Q I rx ry ⟨a, b, xs, ys, rfl, rfl, ha, hb, hz, q0, q1, q2⟩
  cases rx
  cases ry
  obtain ⟨its, r1, p1, _⟩ := I.tuple ha
  obtain ⟨jts, r2, p2, _⟩ := I.tuple hb
  by_cases hx : xs = []
  · subst hx; cases r1
    exact cat_tup0 p1 p2 ⟨.ref b, H, I, rfl, q0 rfl⟩
  · exact HT.cat_tup p1 p2 (fun z => hx (r1.nil_iff.mp z)) (fun z => ⟨.ref a, H, I, rfl, q1 hx (r2.nil_iff.mp z)⟩) (fun z => tnew (t' := s.toks) I (r1.append r2) (List.length_append ▸ hz) q2) (by rw [← r1.length, ← r2.length]; exact hz)
/-- t[lo:hi] -/
def rSlF (K : PySem.W.Frag) : V → Option Int → Option Int → Hp → VK → Prop := fun x lo hi H Q => ∃ a xs, x = .ref a ∧ SqT K H a xs ∧ (HT.sIx xs.length 0 lo = 0 ∧ HT.sIx xs.length xs.length hi = xs.length → Q (.ref a) H) ∧ NewF H Q (cutV xs lo hi)
theorem sl_tupF : SlR X (rSlF X.K) := by
  rintro pins s σ H x v vl vu lo hi sl Q I rx hs pl pu ⟨a, xs, rfl, hx, q1, q2⟩
  cases rx
  obtain ⟨its, r, ht, hz⟩ := I.tuple hx
  have hlen : its.toArray.size = xs.length := r.length.symm
  refine ⟨"tuple", _, slot_tuple_getitem.lookup, ht.typeIs, ?_⟩
  by_cases hw : HT.sIx xs.length 0 lo = 0 ∧ HT.sIx xs.length xs.length hi = xs.length
  · exact getItem_tuple_whole ht hs pl pu (hlen ▸ hw) ⟨.ref a, H, I, rfl, q1 hw⟩
  · refine HT.getItem_tuple_cut ht hs pl pu (hlen ▸ hw) ?_ (hlen ▸ hz)
    rw [hlen]
    exact tnew (t' := s.toks) I ((r.drop (HT.sIx xs.length 0 lo)).take (HT.sIx xs.length xs.length hi - HT.sIx xs.length 0 lo)) (Nat.le_trans (cutV_length xs lo hi) hz) q2
/-- tuple(xs) -/
def rTupleF (K : PySem.W.Frag) : List V → Hp → VK → Prop := fun xs H Q => ∃ p ys, xs = [.ref p] ∧ ((SqL K H p ys ∧ NewF H Q ys) ∨ (SqT K H p ys ∧ Q (.ref p) H))
theorem call_tupleF : CallR X (.type "tuple") (rTupleF X.K) := by
  rintro pins s σ H xs us Q I r ⟨p, ys, rfl, h⟩
  obtain ⟨u, rfl, rx⟩ := vals1 r
  cases rx
  rcases h with ⟨hq, q⟩ | ⟨hq, q⟩
  · obtain ⟨its, r', pl, hz⟩ := I.list hq
    refine call_tuple_list pl.isList (fun h' kp => ?_) (by have := r'.length; simp only [List.size_toArray]; omega)
    exact tnew (t' := s.toks) (show Inv X pins σ H { s with heap := h' } from I.kept (t' := s.toks) kp) r' hz q
  · obtain ⟨its, _, pl, _⟩ := I.tuple hq
    exact call_tuple_same pl ⟨.ref p, H, I, rfl, q⟩
/-- tuple(range object) -/
theorem call_tupRgF (hc : X.calm = true) : CallR X (.type "tuple") (fun xs H Q => ∃ a lo hi, xs = [.ref a] ∧ H a = some (.rng lo hi) ∧ RgOk lo hi ∧ NewF H Q (rgV lo hi)) := by
  rintro pins s σ H xs us Q I r ⟨a, lo, hi, rfl, ha, ⟨b1, b2, b3, b4, b5⟩, q⟩
  obtain ⟨u, rfl, rx⟩ := vals1 r
  cases rx
  obtain ⟨t, u, v, e⟩ := (show ObjOk X.prog X.w H s.heap a (.rng lo hi) from I.hok a _ ha)
  refine call_tuple_range (n := (hi - lo).toNat) (I.ok.hd hc) (show IsRange s.heap a lo hi 1 t u v from e) (small_one b1 b2 b3 b4) (rangeSize_nat lo hi) b5 fun h' tk acc hk hi' => ?_
  have J : Inv X pins σ H { s with heap := h', toks := tk } := I.kept hk
  have z : (rgV lo hi).length ≤ sizeLine := by rw [rgV_length, sizeLine_eq]; omega
  have q' := tnew (t' := tk) J (vals_rg hi') z q
  rw [Array.toArray_toList] at q'
  exact q'

/-! ### tuple * int -/
theorem mul_same (l : Addr) (items : Array Value) (n : Nat) (dd : Option Addr) (sl : Array (Option Value)) (x : Int) (u : Tok) (c0 : (decide (x < -(2 ^ 63)) || decide (x ≥ 2 ^ 63)) = false) (c1 : (items.isEmpty || x == 1) = true) :
    Meets (Builtin.«tuple.__mul__» ⟨[.ref l, .int x u], []⟩) (fun _ R s => s.heap.get? l = some { cls := .type "tuple", dict := dd, data := .seq items n, slots := sl } ∧ R (.ok (.ret (Value.ref l))) s) :=
  .of_wp fun prog w A R s h => by
    obtain ⟨hp, g, d, tk, os⟩ := s
    obtain ⟨hl, h⟩ := h
    have f1 := AutoSeq1.idx_int
    wp_walk using wpAny_loadPart' hl
    repeat (first
      | (refine wpAny_ite_false (decide_eq_false (by rw [c0]; exact Bool.false_ne_true)) ?_; wp_walk using wpAny_loadPart' hl)
      | (refine wpAny_ite_true (decide_eq_true (by rw [c1])) ?_; wp_walk using wpAny_loadPart' hl))
    exact ⟨_, rfl, h⟩
theorem mul_zero (l : Addr) (items : Array Value) (n : Nat) (dd : Option Addr) (sl : Array (Option Value)) (x : Int) (u : Tok) (c0 : (decide (x < -(2 ^ 63)) || decide (x ≥ 2 ^ 63)) = false) (c1 : (items.isEmpty || x == 1) = false) (c2 : (decide (x ≤ 0) || items.isEmpty) = true) :
    Meets (Builtin.«tuple.__mul__» ⟨[.ref l, .int x u], []⟩) (fun _ R s => s.heap.get? l = some { cls := .type "tuple", dict := dd, data := .seq items n, slots := sl } ∧
      R (.ok (.ret (Value.ref s.heap.objs.size))) { s with heap := s.heap.push { cls := Value.type "tuple", data := Data.seq #[] }, toks := s.toks }) :=
  .of_wp fun prog w A R s h => by
    obtain ⟨hp, g, d, tk, os⟩ := s
    obtain ⟨hl, h⟩ := h
    have f1 := AutoSeq1.idx_int
    have z : ¬ (#[] : Array Value).size > sizeLine := Nat.not_lt.mpr (Nat.zero_le _)
    wp_walk using wpAny_loadPart' hl
    repeat (first
      | (refine wpAny_ite_false (decide_eq_false (by rw [c0]; exact Bool.false_ne_true)) ?_; wp_walk using wpAny_loadPart' hl)
      | (refine wpAny_ite_false (decide_eq_false (by rw [c1]; exact Bool.false_ne_true)) ?_; wp_walk using wpAny_loadPart' hl)
      | (refine wpAny_ite_true (decide_eq_true (by rw [c2])) ?_; wp_walk using wpAny_loadPart' hl)
      | (refine wpAny_ite_false (decide_eq_false z) ?_; wp_walk using wpAny_loadPart' hl))
    exact ⟨_, rfl, h⟩
/-- t * k: t itself, the empty one, a new one -/
def rMulF (K : PySem.W.Frag) : R2 := fun x y H Q => ∃ l k xs, x = .ref l ∧ y = .int k ∧ SqT K H l xs ∧ -1000000 ≤ k ∧ k ≤ 1000000 ∧ xs.length * k.toNat ≤ 1000000 ∧ (xs = [] ∨ k = 1 → Q (.ref l) H) ∧ NewF H Q (List.replicate k.toNat xs).flatten
theorem op_mulF : OpR X (binaryOp .Mult) (rMulF X.K) := by
  rintro pins s σ H x y v u Q I rx ry ⟨l, k, xs, rfl, rfl, hT, h1, h2, h3, q1, q2⟩
  cases rx
  obtain ⟨t, rfl⟩ := ry
  obtain ⟨its, r, ⟨⟨cls, dd, data, sl⟩, ho, hc, n, hd⟩, hs⟩ := I.tuple hT
  simp only at hc hd
  subst hc hd
  have hle : its.length = xs.length := r.length.symm
  have c0 : (decide (k < -(2 ^ 63)) || decide (k ≥ 2 ^ 63)) = false := by rw [decide_eq_false (by omega), decide_eq_false (by omega)]; rfl
  refine wpAny_binaryOp_repeat_ref (T := "tuple") (U := "int") (by decide) ⟨_, ho, rfl⟩ (fun s' => typeIs_int s' k t) noFill_tuple_mul F.fills_int_mul F.slot_int_rmul repeat_tuple F.slot_int_index.lookup
    (call_meets F.slot_int_rmul (typeIs_int s k t) F.entry_int_rmul (F.args_int_rmul_2 _ _) (int_rmul_tuple k t l its.toArray n dd sl) ⟨ho, rfl, ⟨_, ho, rfl⟩, ?_⟩)
  by_cases c1 : (its.toArray.isEmpty || k == 1) = true
  · refine call_meets F.slot_tuple_mul ⟨_, ho, rfl⟩ F.entry_tuple_mul (F.args_tuple_mul_2 _ _) (mul_same l its.toArray n dd sl k t c0 c1) ⟨ho, .ref l, H, I, rfl, q1 ?_⟩
    rw [Bool.or_eq_true] at c1
    rcases c1 with c1 | c1
    · cases r with
      | nil => exact .inl rfl
      | cons _ _ => cases c1
    · exact .inr (beq_iff_eq.mp c1)
  · have c1 : (its.toArray.isEmpty || k == 1) = false := Bool.eq_false_iff.mpr c1
    have hi : its.toArray.isEmpty = false := (Bool.or_eq_false_iff.mp c1).1
    by_cases c2 : k ≤ 0
    · have e : (List.replicate k.toNat xs).flatten = [] := by
        have : k.toNat = 0 := by omega
        rw [this]; rfl
      rw [e] at q2
      exact call_meets F.slot_tuple_mul ⟨_, ho, rfl⟩ F.entry_tuple_mul (F.args_tuple_mul_2 _ _) (mul_zero l its.toArray n dd sl k t c0 c1 (by rw [decide_eq_true c2]; rfl)) ⟨ho, tnew (its := []) (t' := s.toks) I .nil (Nat.zero_le _) q2⟩
    · have lenF : ∀ {α : Type} (ys : List α), (List.replicate k.toNat ys).flatten.length = k.toNat * ys.length := fun ys => by rw [lm_len_rep_flat]
      have hm : ((its.toArray.size : Nat) : Int) * k ≤ 1000000 := by
        have a1 : (xs.length : Int) * (k.toNat : Int) ≤ 1000000 := Int.natCast_mul .. ▸ Int.ofNat_le.mpr h3
        rw [Int.toNat_of_nonneg (by omega)] at a1
        rw [List.size_toArray, hle]; exact a1
      have h4 : k.toNat * xs.length ≤ 1000000 := by rw [Nat.mul_comm]; exact h3
      have c4 : Builtin.Tuple.tupleTooMany (((its.toArray.size : Nat) : Int) * k) = false := by
        unfold Builtin.Tuple.tupleTooMany
        rw [sizeLine_eq]; exact decide_eq_false (by omega)
      refine call_meets F.slot_tuple_mul ⟨_, ho, rfl⟩ F.entry_tuple_mul (F.args_tuple_mul_2 _ _) (tuple_mulW l its.toArray n dd sl k t c0 c1 (by rw [hi, Bool.or_false]; exact decide_eq_false c2) (by omega) c4 ?_) ⟨ho, ?_⟩
      · rw [size_rep, List.size_toArray, lenF, hle, sizeLine_eq]; omega
      · rw [size_rep]
        exact tnew (t' := s.toks) I (r.rep k.toNat) (by rw [lenF, sizeLine_eq]; omega) q2

/-! ### a method of a tuple -/
def tTM (K : PySem.W.Frag) (r : V → List V → Hp → VK → Prop) (to : TE) (t : TA) : TE := fun σ H Q => to σ H fun x H1 => ∃ a ys, x = .ref a ∧ TpT K H1 a ys ∧ t σ H1 fun xs H2 => r x xs H2 Q
theorem pe_tm {o e : Expr} {es : List Expr} {to : TE} {t : TA} {name : Str} {apos cpos : Pos} {id : String} {r : V → List V → Hp → VK → Prop} (slot : Slot "tuple" name id) (hty : typeOf (.builtin id) = pure (.type "method_descriptor")) (hm : MtR X id r) (ho : PE X o to) (ha : PA X (e :: es) t)
    (hbase : attributeBase o name X.env (eval o X.env) = eval o X.env) (hline : (apos.endLine == cpos.line) = true)
    (hfew : ((backTo cpos (starEach (e :: es) X.env)).all (fun x => !x.1) && (backToKw cpos (keywordEach [] X.env)).all (fun x => x.1.isSome) && decide ((e :: es).length + ([] : List Keyword).length + (if ([] : List Keyword).isEmpty then 0 else 1) < 30)) = true)
    (hs : starEach (e :: es) X.env = (false, eval e X.env) :: starEach es X.env) (hplain : (backTo cpos (starEach es X.env)).any (·.1) = false) : PE X (.Call (.Attribute o name apos) (e :: es) [] cpos) (tTM X.K r to t) :=
  ⟨fun pins s σ H Q I h => wpAny_Call_method_late hbase hfew hline rfl (thn (ho.run pins s σ H _ I h) fun v s1 ⟨x, H1, J, r1, a, ys, e1, ty, q1⟩ => by
    subst e1
    cases r1
    obtain ⟨its, _, ht, _, ob, h1, h2⟩ := ty.bare J
    refine ⟨"tuple", id, F.plainAttrs_tuple, slot, hty, ht.typeIs, (fun b z => by cases z; exact ⟨ob, h1, h2⟩), ?_⟩
    have hA := ha.run cpos pins s1 σ H1 _ J q1
    rw [hs] at hA ⊢
    refine Calls.callWith_builtin (show (false || (backTo cpos (starEach es X.env)).any (·.1)) = false from hplain) (Calls.evalArgs_plain (thn hA fun us s2 ⟨vs, H2, J2, r2, q2⟩ => ?_))
    exact hm pins s2 σ H2 (.ref a) vs (.ref a) us Q J2 rfl r2 q2)⟩
end
end Ev
/-! from E1.lean -/
set_option maxRecDepth 100000
set_option maxHeartbeats 4000000
/-! Ev, part 1: data, the computation's type, how data stands in the abstract heap. -/
namespace Ev
open PySem L2

/-- data: what stands still. ref: a thing by its place; fn: a def by its number; scr: a list that is not ours, only read; cl: a class by its number -/
inductive D where
  | non | bl (b : Bool) | int (i : Int) | str (x : Str) | tup (xs : List D) | lst (xs : List D) | rng (lo hi : Int) | fn (g : Nat) | ref (a : Addr) | scr (xs : List D)
  deriving Inhabited

/-- an error: its class by number, what it carries -/
structure Xn where
  cls : Nat
  thing : Option D

/-- a computation over a state, by what is wanted of its end -/
structure M (S : Type) (α : Type) where
  run : S → (α → S → Prop) → (Xn → S → Prop) → Prop
  mono : ∀ s (Q Q' : α → S → Prop) (E E' : Xn → S → Prop), (∀ a t, Q a t → Q' a t) → (∀ x t, E x t → E' x t) → run s Q E → run s Q' E'

namespace M
variable {S α β : Type}
def pure (a : α) : M S α := ⟨fun s Q _ => Q a s, fun _ _ _ _ _ h _ r => h _ _ r⟩
def bind (m : M S α) (f : α → M S β) : M S β :=
  ⟨fun s Q E => m.run s (fun a t => (f a).run t Q E) E, fun _ _ _ _ _ h hE r => m.mono _ _ _ _ _ (fun a t r => (f a).mono _ _ _ _ _ h hE r) hE r⟩
def fail : M S α := ⟨fun _ _ _ => False, fun _ _ _ _ _ _ _ r => r⟩
def throw (x : Xn) : M S α := ⟨fun s _ E => E x s, fun _ _ _ _ _ _ h r => h _ _ r⟩
/-- p must hold -/
def need (p : Prop) (m : M S α) : M S α := ⟨fun s Q E => p ∧ m.run s Q E, fun _ _ _ _ _ h hE r => ⟨r.1, m.mono _ _ _ _ _ h hE r.2⟩⟩
/-- both ways -/
def cond (b : Bool) (m n : M S α) : M S α :=
  ⟨fun s Q E => (b = true → m.run s Q E) ∧ (b = false → n.run s Q E), fun _ _ _ _ _ h hE r => ⟨fun e => m.mono _ _ _ _ _ h hE (r.1 e), fun e => n.mono _ _ _ _ _ h hE (r.2 e)⟩⟩
/-- any value of which p holds -/
def some (p : α → Prop) : M S α := ⟨fun s Q _ => ∀ a, p a → Q a s, fun _ _ _ _ _ h _ r a pa => h _ _ (r a pa)⟩
/-- the state's own -/
def get : M S S := ⟨fun s Q _ => Q s s, fun _ _ _ _ _ h _ r => h _ _ r⟩
def put (t : S) : M S Unit := ⟨fun _ Q _ => Q () t, fun _ _ _ _ _ h _ r => h _ _ r⟩
/-- some number of rounds is enough -/
def upTo (f : Nat → M S α) : M S α := ⟨fun s Q E => ∃ n, (f n).run s Q E, fun _ _ _ _ _ h hE ⟨n, r⟩ => ⟨n, (f n).mono _ _ _ _ _ h hE r⟩⟩
/-- what an option holds -/
def opt : Option α → M S α
  | .some a => pure a
  | .none => fail
end M

/-- a slot: nothing is known; frozen data; a list (a dict) of the def's own -/
inductive Sl where
  | no | dat (d : D) | own (d : D)
  deriving Inhabited
/-- what an expression gives: frozen data; a new object of its own; the own object in slot i -/
inductive Rv where
  | dat (d : D) | own (d : D) | slot (i : Nat)
  deriving Inhabited

/-- the world: what it owns (foot), what holds of it -/
structure Wd (S : Type) where
  foot : S → Addr → Prop
  inv : S → Hp → Hp → Prop
  stay : ∀ s G G' H H', inv s G H → (∀ a o, G a = some o → G' a = some o) → (∀ a, foot s a → H' a = H a) → inv s G' H'
  there : ∀ s G H a, inv s G H → foot s a → ∃ o, H a = some o
  /-- the tables of code objects -/
  tb : Addr → Prop
  tbFoot : ∀ s a, tb a → foot s a
  tbAt : ∀ s G H a, inv s G H → tb a → ∃ ps, H a = some (.tbl ps) ∧ TriplesOk ps.toList
  tbGrow : ∀ s G H a (ps : Array Value), inv s G H → tb a → TriplesOk ps.toList → inv s G (upd H a (.tbl ps))

section
variable (K : PySem.W.Frag) (T : Nat → Option Addr)
mutual
inductive DR (G : Hp) : V → D → Prop
  | non : DR G .non .non
  | bl (b : Bool) : DR G (.bl b) (.bl b)
  | int (i : Int) : DR G (.int i) (.int i)
  | str (x : Str) : DR G (.str x) (.str x)
  | tup {a : Addr} {xs : List V} {ds : List D} : TpT K G a xs → DRs G xs ds → DR G (.ref a) (.tup ds)
  | lst {a : Addr} {xs : List V} {ds : List D} : G a = some (.lst xs) → DRs G xs ds → DR G (.ref a) (.lst ds)
  | rng {a : Addr} {lo hi : Int} : G a = some (.rng lo hi) → DR G (.ref a) (.rng lo hi)
  | fn {a : Addr} {g : Nat} : T g = some a → DR G (.ref a) (.fn g)
  | ref (a : Addr) : DR G (.ref a) (.ref a)
  | scr {a : Addr} {xs : List V} {ds : List D} : SqL K G a xs → DRs G xs ds → DR G (.ref a) (.scr ds)
inductive DRs (G : Hp) : List V → List D → Prop
  | nil : DRs G [] []
  | cons {v : V} {vs : List V} {d : D} {ds : List D} : DR G v d → DRs G vs ds → DRs G (v :: vs) (d :: ds)
end
/-- the content of an own object -/
def OwnAt (G H : Hp) (a : Addr) : D → Prop
  | .lst ds => ∃ xs, H a = some (.lst xs) ∧ DRs K T G xs ds
  | _ => False
end

section
variable {K : PySem.W.Frag} {T : Nat → Option Addr} {G G' H H' : Hp}
abbrev Sub (G G' : Hp) : Prop := ∀ a o, G a = some o → G' a = some o
theorem Sub.refl (G : Hp) : Sub G G := fun _ _ e => e
theorem Sub.trans {G G' G'' : Hp} (a : Sub G G') (b : Sub G' G'') : Sub G G'' := fun x o e => b x o (a x o e)
theorem Sub.rd (s : Sub G G') {a : Addr} {u : HO} (h : Rd G a u) : Rd G' a u := by
  rcases h with h | ⟨o, h⟩
  · exact .inl (s a _ h)
  · exact .inr ⟨o, s a _ h⟩
theorem Sub.sl (s : Sub G G') {a : Addr} {xs : List V} (h : SqL K G a xs) : SqL K G' a xs := by
  rcases h with h | h
  · exact .inl (s.rd h)
  · exact .inr h
theorem Sub.st (s : Sub G G') {a : Addr} {xs : List V} (h : SqT K G a xs) : SqT K G' a xs := by
  rcases h with h | h
  · exact .inl (s.rd h)
  · exact .inr h
theorem Sub.tp (s : Sub G G') {a : Addr} {xs : List V} (h : TpT K G a xs) : TpT K G' a xs := by
  rcases h with ⟨ob, h, d⟩ | h
  · exact .inl ⟨ob, s _ _ h, d⟩
  · exact .inr h
mutual
theorem DR.mono (s : Sub G G') : ∀ {v : V} {d : D}, DR K T G v d → DR K T G' v d
  | _, _, .non => .non
  | _, _, .bl b => .bl b
  | _, _, .int i => .int i
  | _, _, .str x => .str x
  | _, _, .tup h r => .tup (s.tp h) (DRs.mono s r)
  | _, _, .lst h r => .lst (s _ _ h) (DRs.mono s r)
  | _, _, .rng h => .rng (s _ _ h)
  | _, _, .fn h => .fn h
  | _, _, .ref a => .ref a
  | _, _, .scr h r => .scr (s.sl h) (DRs.mono s r)
theorem DRs.mono (s : Sub G G') : ∀ {vs : List V} {ds : List D}, DRs K T G vs ds → DRs K T G' vs ds
  | _, _, .nil => .nil
  | _, _, .cons h r => .cons (DR.mono s h) (DRs.mono s r)
end
theorem DRs.length : ∀ {vs : List V} {ds : List D}, DRs K T G vs ds → vs.length = ds.length
  | _, _, .nil => rfl
  | _, _, .cons _ r => by simp [DRs.length r]
theorem DRs.get : ∀ {vs : List V} {ds : List D} {i : Nat} {d : D}, DRs K T G vs ds → ds[i]? = some d → ∃ v, vs[i]? = some v ∧ DR K T G v d
  | _, _, _, _, .nil, e => by simp at e
  | _, _, 0, _, .cons h _, e => by simp at e; subst e; exact ⟨_, rfl, h⟩
  | _, _, i + 1, d, .cons _ r, e => by
    obtain ⟨v, h1, h2⟩ := DRs.get (i := i) (d := d) r (by simpa using e)
    exact ⟨v, by simpa using h1, h2⟩
theorem DRs.getV : ∀ {vs : List V} {ds : List D} {i : Nat} {v : V}, DRs K T G vs ds → vs[i]? = some v → ∃ d, ds[i]? = some d ∧ DR K T G v d
  | _, _, _, _, .nil, e => by simp at e
  | _, _, 0, _, .cons h _, e => by simp at e; subst e; exact ⟨_, rfl, h⟩
  | _, _, i + 1, v, .cons _ r, e => by
    obtain ⟨d, h1, h2⟩ := DRs.getV (i := i) (v := v) r (by simpa using e)
    exact ⟨d, by simpa using h1, h2⟩
theorem DRs.append : ∀ {vs ws : List V} {ds es : List D}, DRs K T G vs ds → DRs K T G ws es → DRs K T G (vs ++ ws) (ds ++ es)
  | _, _, _, _, .nil, s => s
  | _, _, _, _, .cons h r, s => .cons h (DRs.append r s)
theorem DRs.take : ∀ {vs : List V} {ds : List D} (n : Nat), DRs K T G vs ds → DRs K T G (vs.take n) (ds.take n)
  | _, _, 0, _ => .nil
  | _, _, _ + 1, .nil => .nil
  | _, _, n + 1, .cons h r => .cons h (DRs.take n r)
theorem DRs.drop : ∀ {vs : List V} {ds : List D} (n : Nat), DRs K T G vs ds → DRs K T G (vs.drop n) (ds.drop n)
  | _, _, 0, r => r
  | _, _, _ + 1, .nil => .nil
  | _, _, n + 1, .cons _ r => DRs.drop n r
theorem DRs.set {v : V} {d : D} (h : DR K T G v d) : ∀ {vs : List V} {ds : List D} (i : Nat), DRs K T G vs ds → DRs K T G (vs.set i v) (ds.set i d)
  | _, _, _, .nil => .nil
  | _, _, 0, .cons _ r => .cons h r
  | _, _, i + 1, .cons q r => .cons q (DRs.set h i r)
theorem DRs.eraseIdx : ∀ {vs : List V} {ds : List D} (i : Nat), DRs K T G vs ds → DRs K T G (vs.eraseIdx i) (ds.eraseIdx i)
  | _, _, _, .nil => .nil
  | _, _, 0, .cons _ r => r
  | _, _, i + 1, .cons q r => .cons q (DRs.eraseIdx i r)
theorem DRs.reverse : ∀ {vs : List V} {ds : List D}, DRs K T G vs ds → DRs K T G vs.reverse ds.reverse
  | _, _, .nil => .nil
  | _, _, .cons h r => by
    rw [List.reverse_cons, List.reverse_cons]
    exact (DRs.reverse r).append (.cons h .nil)
theorem DRs.flat {vs : List V} {ds : List D} (r : DRs K T G vs ds) : ∀ n : Nat, DRs K T G (List.replicate n vs).flatten (List.replicate n ds).flatten
  | 0 => .nil
  | n + 1 => by
    rw [List.replicate_succ, List.replicate_succ, List.flatten_cons, List.flatten_cons]
    exact r.append (DRs.flat r n)
theorem DRs.of_ints : ∀ {vs : List V} {ns : List Int}, DRs K T G vs (ns.map D.int) → vs = ns.map V.int
  | _, [], h => by cases h; rfl
  | _, n :: ns, h => by
    cases h with
    | cons h r =>
      cases h
      rw [DRs.of_ints r]; rfl
theorem DRs.ints : ∀ (ns : List Int), DRs K T G (ns.map V.int) (ns.map D.int)
  | [] => .nil
  | n :: ns => .cons (.int n) (DRs.ints ns)

/-- the heap's parts: P is kept as it is, G is frozen, the world's own; they stand apart -/
structure Wf {S : Type} (W : Wd S) (P G : Hp) (s : S) (H : Hp) : Prop where
  gh : Sub G H
  ph : Sub P H
  pg : ∀ a o, P a = some o → G a = none
  pf : ∀ a o, P a = some o → ¬ W.foot s a
  gf : ∀ a, W.foot s a → G a = none
  w : W.inv s G H
/-- a place that is the def's own -/
structure Mine {S : Type} (W : Wd S) (P G : Hp) (s : S) (a : Addr) : Prop where
  g : G a = none
  p : P a = none
  f : ¬ W.foot s a

structure Fr {S : Type} (K : PySem.W.Frag) (T : Nat → Option Addr) (W : Wd S) (P G : Hp) (Γ : List Sl) (s : S) (σ : L2.St) (H : Hp) : Prop where
  wf : Wf W P G s H
  len : Γ.length = σ.length
  dat : ∀ (i : Nat) (d : D), Γ[i]? = some (Sl.dat d) → ∃ v, σ[i]? = some (some v) ∧ DR K T G v d
  own : ∀ (i : Nat) (d : D), Γ[i]? = some (Sl.own d) → ∃ a, σ[i]? = some (some (.ref a)) ∧ OwnAt K T G H a d ∧ Mine W P G s a
  inj : ∀ (i j : Nat) (d e : D) (a : Addr), Γ[i]? = some (Sl.own d) → Γ[j]? = some (Sl.own e) → σ[i]? = some (some (.ref a)) → σ[j]? = some (some (.ref a)) → i = j

/-- no own slot holds a -/
def Off (Γ : List Sl) (σ : L2.St) (a : Addr) : Prop := ∀ (i : Nat) (d : D), Γ[i]? = some (Sl.own d) → σ[i]? ≠ some (some (.ref a))

inductive RR {S : Type} (K : PySem.W.Frag) (T : Nat → Option Addr) (W : Wd S) (P G : Hp) (Γ : List Sl) (s : S) (σ : L2.St) (H : Hp) : V → Rv → Prop
  | dat {v : V} {d : D} : DR K T G v d → RR K T W P G Γ s σ H v (.dat d)
  | own {a : Addr} {d : D} : OwnAt K T G H a d → Mine W P G s a → Off Γ σ a → RR K T W P G Γ s σ H (.ref a) (.own d)
  | slot {v : V} {i : Nat} {d : D} : Γ[i]? = some (.own d) → σ[i]? = some (some v) → RR K T W P G Γ s σ H v (.slot i)

theorem OwnAt.mono (s : Sub G G') {a : Addr} (e : H' a = H a) : ∀ {d : D}, OwnAt K T G H a d → OwnAt K T G' H' a d
  | .lst ds, ⟨xs, h, r⟩ => ⟨xs, e.trans h, r.mono s⟩
theorem OwnAt.there {a : Addr} : ∀ {d : D}, OwnAt K T G H a d → ∃ o, H a = some o
  | .lst ds, ⟨xs, h, _⟩ => ⟨_, h⟩
/-- an own object is made frozen -/
theorem OwnAt.frz {a : Addr} : ∀ {d : D}, G a = none → OwnAt K T G H a d → ∃ o, H a = some o ∧ DR K T (upd G a o) (.ref a) d
  | .lst ds, n, ⟨xs, h, r⟩ => ⟨_, h, .lst upd_same (r.mono fun b o e => by rw [upd_ne (ne_of_none e n)]; exact e)⟩
theorem sub_upd {a : Addr} {o : HO} (n : G a = none) : Sub G (upd G a o) := fun b u e => by rw [upd_ne (ne_of_none e n)]; exact e

section
variable {S : Type} {W : Wd S} {P : Hp} {Γ : List Sl} {s : S} {σ : L2.St}
/-- a tracked place of one's own becomes frozen -/
theorem Wf.freeze (w : Wf W P G s H) {a : Addr} {o : HO} (m : Mine W P G s a) (h : H a = some o) : Wf W P (upd G a o) s H where
  gh := fun b u e => by
    by_cases q : b = a
    · subst q; rw [upd_same] at e; cases e; exact h
    · rw [upd_ne q] at e; exact w.gh b u e
  ph := w.ph
  pg := fun b u e => by
    have q : b ≠ a := fun z => by rw [z, m.p] at e; cases e
    rw [upd_ne q]; exact w.pg b u e
  pf := w.pf
  gf := fun b e => by
    have q : b ≠ a := fun z => m.f (z ▸ e)
    rw [upd_ne q]; exact w.gf b e
  w := W.stay _ _ _ _ _ w.w (sub_upd m.g) fun _ _ => rfl
theorem Mine.mono_g {a b : Addr} {o : HO} (m : Mine W P G s b) (h : b ≠ a) : Mine W P (upd G a o) s b := ⟨by rw [upd_ne h]; exact m.g, m.p, m.f⟩
theorem Fr.freeze (F : Fr K T W P G Γ s σ H) {a : Addr} {o : HO} (m : Mine W P G s a) (h : H a = some o) (off : Off Γ σ a) : Fr K T W P (upd G a o) Γ s σ H where
  wf := F.wf.freeze m h
  len := F.len
  dat := fun i d e => let ⟨v, h1, h2⟩ := F.dat i d e; ⟨v, h1, h2.mono (sub_upd m.g)⟩
  own := fun i d e => by
    obtain ⟨b, h1, h2, h3⟩ := F.own i d e
    have q : b ≠ a := fun z => off i d e (z ▸ h1)
    exact ⟨b, h1, h2.mono (sub_upd m.g) rfl, h3.mono_g q⟩
  inj := F.inj
/-- the own object of slot i becomes frozen -/
theorem Fr.freezeSlot (F : Fr K T W P G Γ s σ H) {i : Nat} {d : D} (e : Γ[i]? = some (.own d)) : ∃ a o, σ[i]? = some (some (.ref a)) ∧ G a = none ∧ DR K T (upd G a o) (.ref a) d ∧ Fr K T W P (upd G a o) (Γ.set i (.dat d)) s σ H := by
  obtain ⟨a, h1, h2, m⟩ := F.own i d e
  obtain ⟨o, h3, h4⟩ := h2.frz m.g
  have hi : i < Γ.length := (List.getElem?_eq_some_iff.mp e).1
  refine ⟨a, o, h1, m.g, h4, F.wf.freeze m h3, by rw [List.length_set]; exact F.len, fun j d' e' => ?_, fun j d' e' => ?_, fun j k d1 d2 b e1 e2 q1 q2 => ?_⟩
  · by_cases q : i = j
    · subst q
      rw [List.getElem?_set_self hi] at e'
      cases e'
      exact ⟨_, h1, h4⟩
    · rw [List.getElem?_set_ne q] at e'
      obtain ⟨v, x1, x2⟩ := F.dat j d' e'
      exact ⟨v, x1, x2.mono (sub_upd m.g)⟩
  · by_cases q : i = j
    · subst q
      rw [List.getElem?_set_self hi] at e'
      cases e'
    · rw [List.getElem?_set_ne q] at e'
      obtain ⟨b, x1, x2, x3⟩ := F.own j d' e'
      have ne : b ≠ a := fun z => q (F.inj i j d d' a e e' h1 (z ▸ x1))
      exact ⟨b, x1, x2.mono (sub_upd m.g) rfl, x3.mono_g ne⟩
  · have nj : ∀ {k : Nat} {d' : D}, (Γ.set i (.dat d))[k]? = some (.own d') → Γ[k]? = some (.own d') := fun {k d'} x => by
      by_cases q : i = k
      · subst q
        rw [List.getElem?_set_self hi] at x
        cases x
      · rw [List.getElem?_set_ne q] at x; exact x
    exact F.inj j k d1 d2 b (nj e1) (nj e2) q1 q2
/-- a new object is laid: it is one's own -/
theorem Wf.new (w : Wf W P G s H) {a : Addr} (n : H a = none) (o : HO) : Wf W P G s (upd H a o) ∧ Mine W P G s a := by
  have nG : G a = none := by
    cases e : G a with
    | none => rfl
    | some u => rw [w.gh a u e] at n; cases n
  have nP : P a = none := by
    cases e : P a with
    | none => rfl
    | some u => rw [w.ph a u e] at n; cases n
  have nF : ¬ W.foot s a := fun z => by
    obtain ⟨u, e⟩ := W.there _ _ _ _ w.w z
    rw [e] at n; cases n
  refine ⟨⟨fun b u e => ?_, fun b u e => ?_, w.pg, w.pf, w.gf, W.stay _ _ _ _ _ w.w (Sub.refl _) fun b hb => ?_⟩, nG, nP, nF⟩
  · rw [upd_ne (ne_of_none (w.gh b u e) n)]; exact w.gh b u e
  · rw [upd_ne (ne_of_none (w.ph b u e) n)]; exact w.ph b u e
  · have q : b ≠ a := fun z => nF (z ▸ hb)
    rw [upd_ne q]
theorem Fr.new (F : Fr K T W P G Γ s σ H) {a : Addr} (n : H a = none) (o : HO) : Fr K T W P G Γ s σ (upd H a o) ∧ Mine W P G s a ∧ Off Γ σ a := by
  obtain ⟨w, m⟩ := F.wf.new n o
  have off : Off Γ σ a := fun i d e z => by
    obtain ⟨b, h1, h2, _⟩ := F.own i d e
    rw [h1] at z
    cases z
    obtain ⟨u, q⟩ := h2.there
    rw [q] at n; cases n
  refine ⟨⟨w, F.len, F.dat, fun i d e => ?_, F.inj⟩, m, off⟩
  obtain ⟨b, h1, h2, h3⟩ := F.own i d e
  have q : b ≠ a := fun z => off i d e (z ▸ h1)
  exact ⟨b, h1, h2.mono (Sub.refl _) (by rw [upd_ne q]), h3⟩
/-- .. or frozen at once -/
theorem Fr.newG (F : Fr K T W P G Γ s σ H) {a : Addr} (n : H a = none) (o : HO) : Fr K T W P (upd G a o) Γ s σ (upd H a o) ∧ G a = none := by
  obtain ⟨F', m, off⟩ := F.new n o
  exact ⟨F'.freeze m upd_same off, m.g⟩
/-- an own object changes -/
theorem Wf.write (w : Wf W P G s H) {a : Addr} (m : Mine W P G s a) (o : HO) : Wf W P G s (upd H a o) where
  gh := fun b u e => by rw [upd_ne (ne_of_none e m.g)]; exact w.gh b u e
  ph := fun b u e => by rw [upd_ne (ne_of_none e m.p)]; exact w.ph b u e
  pg := w.pg
  pf := w.pf
  gf := w.gf
  w := W.stay _ _ _ _ _ w.w (Sub.refl _) fun b hb => by
    have q : b ≠ a := fun z => m.f (z ▸ hb)
    rw [upd_ne q]
theorem Fr.write (F : Fr K T W P G Γ s σ H) {i : Nat} {d d' : D} {a : Addr} {o : HO} (e : Γ[i]? = some (.own d)) (ha : σ[i]? = some (some (.ref a))) (ho : OwnAt K T G (upd H a o) a d') : Fr K T W P G (Γ.set i (.own d')) s σ (upd H a o) := by
  obtain ⟨b, h1, h2, m⟩ := F.own i d e
  rw [ha] at h1; cases h1
  have hi : i < Γ.length := (List.getElem?_eq_some_iff.mp e).1
  have nj : ∀ {k : Nat} {e' : D}, (Γ.set i (.own d'))[k]? = some (.own e') → ∃ e'', Γ[k]? = some (.own e'') := fun {k e'} x => by
    by_cases q : i = k
    · subst q; exact ⟨_, e⟩
    · rw [List.getElem?_set_ne q] at x; exact ⟨_, x⟩
  refine ⟨F.wf.write m o, by rw [List.length_set]; exact F.len, fun j d1 e' => ?_, fun j d1 e' => ?_, fun j k d1 d2 b e1 e2 q1 q2 => ?_⟩
  · by_cases q : i = j
    · subst q
      rw [List.getElem?_set_self hi] at e'
      cases e'
    · rw [List.getElem?_set_ne q] at e'
      exact F.dat j d1 e'
  · by_cases q : i = j
    · subst q
      rw [List.getElem?_set_self hi] at e'
      cases e'
      exact ⟨a, ha, ho, m⟩
    · rw [List.getElem?_set_ne q] at e'
      obtain ⟨b, x1, x2, x3⟩ := F.own j d1 e'
      have ne : b ≠ a := fun z => q (F.inj i j d d1 a e e' ha (z ▸ x1))
      exact ⟨b, x1, x2.mono (Sub.refl _) (by rw [upd_ne ne]), x3⟩
  · obtain ⟨d3, e3⟩ := nj e1
    obtain ⟨d4, e4⟩ := nj e2
    exact F.inj j k d3 d4 b e3 e4 q1 q2
/-- a name is set to frozen data -/
theorem Fr.setDat (F : Fr K T W P G Γ s σ H) {i : Nat} {v : V} {d : D} (h : DR K T G v d) : Fr K T W P G (Γ.set i (.dat d)) s (σ.set i (some v)) H := by
  have nj : ∀ {k : Nat} {e' : D}, (Γ.set i (.dat d))[k]? = some (.own e') → i ≠ k ∧ Γ[k]? = some (.own e') := fun {k e'} x => by
    by_cases q : i = k
    · subst q
      rw [List.getElem?_set] at x
      simp only [if_true] at x
      split at x <;> cases x
    · rw [List.getElem?_set_ne q] at x; exact ⟨q, x⟩
  refine ⟨F.wf, by rw [List.length_set, List.length_set]; exact F.len, fun j d1 e' => ?_, fun j d1 e' => ?_, fun j k d1 d2 b e1 e2 q1 q2 => ?_⟩
  · by_cases q : i = j
    · subst q
      have hi : i < Γ.length := by
        rw [List.getElem?_set] at e'
        simp only [if_true] at e'
        split at e'
        · assumption
        · cases e'
      rw [List.getElem?_set_self hi] at e'
      cases e'
      exact ⟨v, by rw [List.getElem?_set_self (by rw [← F.len]; exact hi)], h⟩
    · rw [List.getElem?_set_ne q] at e'
      obtain ⟨w, x1, x2⟩ := F.dat j d1 e'
      exact ⟨w, by rw [List.getElem?_set_ne q]; exact x1, x2⟩
  · obtain ⟨q, x⟩ := nj e'
    obtain ⟨b, x1, x2, x3⟩ := F.own j d1 x
    exact ⟨b, by rw [List.getElem?_set_ne q]; exact x1, x2, x3⟩
  · obtain ⟨n1, x1⟩ := nj e1
    obtain ⟨n2, x2⟩ := nj e2
    rw [List.getElem?_set_ne n1] at q1
    rw [List.getElem?_set_ne n2] at q2
    exact F.inj j k d1 d2 b x1 x2 q1 q2
/-- .. to an own object -/
theorem Fr.setOwn (F : Fr K T W P G Γ s σ H) {i : Nat} {a : Addr} {d : D} (h : OwnAt K T G H a d) (m : Mine W P G s a) (off : Off Γ σ a) : Fr K T W P G (Γ.set i (.own d)) s (σ.set i (some (.ref a))) H := by
  have nj : ∀ {k : Nat} {e' : D}, (Γ.set i (.own d))[k]? = some (.own e') → (i = k ∧ k < Γ.length ∧ e' = d) ∨ (i ≠ k ∧ Γ[k]? = some (.own e')) := fun {k e'} x => by
    by_cases q : i = k
    · subst q
      rw [List.getElem?_set] at x
      simp only [if_true] at x
      split at x
      · rename_i hi; cases x; exact .inl ⟨rfl, hi, rfl⟩
      · cases x
    · rw [List.getElem?_set_ne q] at x; exact .inr ⟨q, x⟩
  refine ⟨F.wf, by rw [List.length_set, List.length_set]; exact F.len, fun j d1 e' => ?_, fun j d1 e' => ?_, fun j k d1 d2 b e1 e2 q1 q2 => ?_⟩
  · by_cases q : i = j
    · subst q
      rw [List.getElem?_set] at e'
      simp only [if_true] at e'
      split at e' <;> cases e'
    · rw [List.getElem?_set_ne q] at e'
      obtain ⟨w, x1, x2⟩ := F.dat j d1 e'
      exact ⟨w, by rw [List.getElem?_set_ne q]; exact x1, x2⟩
  · rcases nj e' with ⟨q, hj, rfl⟩ | ⟨q, x⟩
    · subst q
      exact ⟨a, by rw [List.getElem?_set_self (by rw [← F.len]; exact hj)], h, m⟩
    · obtain ⟨b, x1, x2, x3⟩ := F.own j d1 x
      exact ⟨b, by rw [List.getElem?_set_ne q]; exact x1, x2, x3⟩
  · rcases nj e1 with ⟨n1, hj, rfl⟩ | ⟨n1, x1⟩
    · subst n1
      rcases nj e2 with ⟨n2, _, _⟩ | ⟨n2, x2⟩
      · exact n2
      · rw [List.getElem?_set_self (by rw [← F.len]; exact hj)] at q1
        cases q1
        rw [List.getElem?_set_ne n2] at q2
        exact absurd q2 (off k d2 x2)
    · rcases nj e2 with ⟨n2, hk, rfl⟩ | ⟨n2, x2⟩
      · subst n2
        rw [List.getElem?_set_self (by rw [← F.len]; exact hk)] at q2
        cases q2
        rw [List.getElem?_set_ne n1] at q1
        exact absurd q1 (off j d1 x1)
      · rw [List.getElem?_set_ne n1] at q1
        rw [List.getElem?_set_ne n2] at q2
        exact F.inj j k d1 d2 b x1 x2 q1 q2
end
end
end Ev
/-! from E2.lean -/
set_option maxRecDepth 100000
set_option maxHeartbeats 4000000
/-! Ev, part 2: the inner language and what it computes. -/
namespace Ev
open PySem L2

inductive Bo where
  | add | sub | mul | fdiv | mod | pow | band | bxor | shr
  deriving DecidableEq, Inhabited
inductive Cm where
  | eq | ne | lt | le | gt | ge | isv | isnt | mem | nmem
  deriving DecidableEq, Inhabited
inductive Bi where
  | len | int1 | tuple | list | range1 | range2 | max2 | min2 | max1 | min1 | sum | sorted | abs | repr | all | any | isTuple | isInt | isBool | isStr | isList
  deriving DecidableEq, Inhabited
inductive Mt where
  | index | count
  deriving DecidableEq, Inhabited

/-- what a target is: a slot, or several targets -/
inductive IG where
  | name (i : Nat) | pair (a b : IG) | three (a b c : IG) | four (a b c d : IG)
  deriving DecidableEq, Inhabited

/-! ### data -/
mutual
def D.toP : D → PyData
  | .non => .none | .bl b => .bool b | .int i => .int i | .str x => .str x
  | .tup xs => .tuple (toPs xs) | .lst xs => .list (toPs xs)
  | .rng _ _ => .none | .fn _ => .none | .ref _ => .none | .scr _ => .none
def toPs : List D → List PyData
  | [] => []
  | d :: ds => d.toP :: toPs ds
end
mutual
/-- plain data -/
def D.flat : D → Bool
  | .non | .bl _ | .int _ | .str _ => true
  | .tup xs => flats xs | .lst xs => flats xs
  | .rng _ _ => false | .fn _ => false | .ref _ => false | .scr _ => false
def flats : List D → Bool
  | [] => true
  | d :: ds => d.flat && flats ds
end
/-- what == can compare -/
def D.ok (d : D) : Bool := d.flat && decide (d.toP.depth ≤ 60)
def D.eqv (d e : D) : Bool := PyData.eqv d.toP e.toP
def D.truth : D → Option Bool
  | .non => some false | .bl b => some b | .int i => some (i != 0)
  | .tup xs => some (!xs.isEmpty) | .lst xs => some (!xs.isEmpty) | _ => none
/-- the item at i, of any sign -/
def at? (ds : List D) (i : Int) : Option D := atI ds i
/-- the part from lo to hi -/
def cut (ds : List D) (lo hi : Option Int) : List D := (ds.drop (HT.sIx ds.length 0 lo)).take (HT.sIx ds.length ds.length hi - HT.sIx ds.length 0 lo)

variable {S : Type}

/-! ### operations by values -/
def opBin : Bo → D → D → M S Rv
  | .add, .int i, .int j => .pure (.dat (.int (i + j)))
  | .add, .tup a, .tup b => .need (a.length ≤ 1000000 ∧ b.length ≤ 1000000) (.pure (.dat (.tup (a ++ b))))
  | .add, .lst a, .lst b => .need (a.length ≤ 1000000 ∧ b.length ≤ 1000000) (.pure (.own (.lst (a ++ b))))
  | .sub, .int i, .int j => .pure (.dat (.int (i - j)))
  | .mul, .int i, .int j => .need ((-(2 ^ 64) < i ∧ i < 2 ^ 64) ∨ (-(2 ^ 64) < j ∧ j < 2 ^ 64)) (.pure (.dat (.int (i * j))))
  | .mul, .lst a, .int j => .need (0 ≤ j ∧ j ≤ 1000000 ∧ a.length * j.toNat ≤ 1000000) (.pure (.own (.lst (List.replicate j.toNat a).flatten)))
  | .mul, .tup a, .int j => .need (-1000000 ≤ j ∧ j ≤ 1000000 ∧ a.length * j.toNat ≤ 1000000) (.pure (.dat (.tup (List.replicate j.toNat a).flatten)))
  | .fdiv, .int i, .int j => .need (j ≠ 0 ∧ j.natAbs < 1073741824) (.pure (.dat (.int (i.fdiv j))))
  | .mod, .int i, .int j => .need (j ≠ 0) (.pure (.dat (.int (i.fmod j))))
  | .pow, .int i, .int j => .need (0 ≤ j ∧ j ≤ 1000000 ∧ i.natAbs < 2 ^ 64) (.pure (.dat (.int (i ^ j.toNat))))
  | .band, .int i, .int j => .pure (.dat (.int (Builtin.bitAnd i j)))
  | .bxor, .int i, .int j => .pure (.dat (.int (Builtin.bitXor i j)))
  | .shr, .int i, .int j => .need (0 ≤ j) (.pure (.dat (.int (i / 2 ^ j.toNat))))
  | _, _, _ => .fail
def opCmp : Cm → D → D → M S D
  | .eq, a, b => .need (a.ok = true ∧ b.ok = true) (.pure (.bl (a.eqv b)))
  | .ne, a, b => .need (a.ok = true ∧ b.ok = true) (.pure (.bl (!a.eqv b)))
  | .lt, .int i, .int j => .pure (.bl (decide (i < j)))
  | .le, .int i, .int j => .pure (.bl (decide (i ≤ j)))
  | .gt, .int i, .int j => .pure (.bl (decide (j < i)))
  | .ge, .int i, .int j => .pure (.bl (decide (j ≤ i)))
  | .isv, a, .non => .pure (.bl (match a with | .non => true | _ => false))
  | .isnt, a, .non => .pure (.bl (match a with | .non => false | _ => true))
  | .isv, .bl a, .bl b => .pure (.bl (decide (a = b)))
  | .isnt, .bl a, .bl b => .pure (.bl (!decide (a = b)))
  | .mem, a, .tup xs => .need (a.ok = true ∧ (D.tup xs).ok = true) (.pure (.bl (xs.any fun z => z.eqv a)))
  | .mem, a, .lst xs => .need (a.ok = true ∧ (D.lst xs).ok = true) (.pure (.bl (xs.any fun z => z.eqv a)))
  | .nmem, a, .tup xs => .need (a.ok = true ∧ (D.tup xs).ok = true) (.pure (.bl (!xs.any fun z => z.eqv a)))
  | .nmem, a, .lst xs => .need (a.ok = true ∧ (D.lst xs).ok = true) (.pure (.bl (!xs.any fun z => z.eqv a)))
  | _, _, _ => .fail
def opIdx : D → D → M S D
  | .tup xs, .int i => .opt (at? xs i)
  | .lst xs, .int i => .opt (at? xs i)
  | _, _ => .fail
/-- a place that fits -/
def fitsI : Option Int → Prop
  | none => True
  | some i => -(2 ^ 62) ≤ i ∧ i < 2 ^ 62
def opSlc : D → Option Int → Option Int → M S Rv
  | .tup xs, lo, hi => .pure (.dat (.tup (cut xs lo hi)))
  | .lst xs, lo, hi => .pure (.own (.lst (cut xs lo hi)))
  | .scr xs, lo, hi => .pure (.own (.lst (cut xs lo hi)))
  | _, _, _ => .fail
def opRev : D → M S Rv
  | .lst xs => .pure (.own (.lst xs.reverse))
  | _ => .fail
/-- the ints of a list -/
def intsOf : List D → Option (List Int)
  | [] => some []
  | .int i :: r => (intsOf r).map (i :: ·)
  | _ :: _ => none
def boolsOf : List D → Option (List Bool)
  | [] => some []
  | .bl i :: r => (boolsOf r).map (i :: ·)
  | _ :: _ => none
/-- lo, lo + 1, .. below hi -/
def rngL (lo hi : Int) : List D := (List.range (hi - lo).toNat).map fun (k : Nat) => .int (lo + k)
def D.isInst (b : Bi) : D → Option Bool
  | .ref _ => none
  | .scr _ => none
  | .rng _ _ => none
  | .fn _ => none
  | .tup _ => some (b == .isTuple)
  | .lst _ => some (b == .isList)
  | .int _ => some (b == .isInt)
  | .bl _ => some (b == .isInt || b == .isBool)
  | .str _ => some (b == .isStr)
  | .non => some false
def opBi : Bi → List D → M S Rv
  | .len, [.tup xs] => .need (xs.length ≤ 1000000) (.pure (.dat (.int xs.length)))
  | .len, [.lst xs] => .need (xs.length ≤ 1000000) (.pure (.dat (.int xs.length)))
  | .int1, [.int i] => .pure (.dat (.int i))
  | .int1, [.bl b] => .pure (.dat (.int (if b then 1 else 0)))
  | .tuple, [.tup xs] => .pure (.dat (.tup xs))
  | .tuple, [.lst xs] => .pure (.dat (.tup xs))
  | .tuple, [.rng lo hi] => .need (-1000000 ≤ lo ∧ lo ≤ 1000000 ∧ -1000000 ≤ hi ∧ hi ≤ 1000000) (.pure (.dat (.tup (rngL lo hi))))
  | .list, [.tup xs] => .pure (.own (.lst xs))
  | .list, [.lst xs] => .pure (.own (.lst xs))
  | .list, [.rng lo hi] => .need (-1000000 ≤ lo ∧ lo ≤ 1000000 ∧ -1000000 ≤ hi ∧ hi ≤ 1000000) (.pure (.own (.lst (rngL lo hi))))
  | .range1, [.int j] => .need (-1000000 ≤ j ∧ j ≤ 1000000) (.pure (.dat (.rng 0 j)))
  | .range2, [.int i, .int j] => .need (-1000000 ≤ i ∧ i ≤ 1000000 ∧ -1000000 ≤ j ∧ j ≤ 1000000) (.pure (.dat (.rng i j)))
  | .max2, [.int i, .int j] => .pure (.dat (.int (if j > i then j else i)))
  | .min2, [.int i, .int j] => .pure (.dat (.int (if j < i then j else i)))
  | .abs, [.int i] => .pure (.dat (.int (if i < 0 then -i else i)))
  | .repr, [d] => .need (d.flat = true ∧ d.toP.showable = true ∧ d.toP.depth ≤ 60 ∧ d.toP.shown.length ≤ 1000000) (.pure (.dat (.str d.toP.shown)))
  | .all, [.lst xs] => (M.opt (boolsOf xs)).bind fun bs => .pure (.dat (.bl (bs.all id)))
  | .any, [.lst xs] => (M.opt (boolsOf xs)).bind fun bs => .pure (.dat (.bl (bs.any id)))
  | .isTuple, [d] => (M.opt (d.isInst .isTuple)).bind fun b => .pure (.dat (.bl b))
  | .isInt, [d] => (M.opt (d.isInst .isInt)).bind fun b => .pure (.dat (.bl b))
  | .isBool, [d] => (M.opt (d.isInst .isBool)).bind fun b => .pure (.dat (.bl b))
  | .isStr, [d] => (M.opt (d.isInst .isStr)).bind fun b => .pure (.dat (.bl b))
  | .isList, [d] => (M.opt (d.isInst .isList)).bind fun b => .pure (.dat (.bl b))
  | _, _ => .fail
/-- the first place of d in xs -/
def place (xs : List D) (d : D) : Option Nat := xs.findIdx? fun y => y.eqv d
def opMeth : Mt → D → D → M S D
  | .index, .tup xs, d => .need ((D.tup xs).ok = true ∧ d.ok = true) ((M.opt (place xs d)).bind fun j => .pure (.int j))
  | .index, .lst xs, d => .need ((D.lst xs).ok = true ∧ d.ok = true) ((M.opt (place xs d)).bind fun j => .pure (.int j))
  | .count, .tup xs, d => .need ((D.tup xs).ok = true ∧ d.ok = true) (.pure (.int (xs.countP fun y => y.eqv d : Nat)))
  | .count, .lst xs, d => .need ((D.lst xs).ok = true ∧ d.ok = true) (.pure (.int (xs.countP fun y => y.eqv d : Nat)))
  | _, _, _ => .fail
def itemsOf : D → Option (List D)
  | .tup xs => some xs
  | .lst xs => some xs
  | .rng lo hi => if -1000000 ≤ lo ∧ lo ≤ 1000000 ∧ -1000000 ≤ hi ∧ hi ≤ 1000000 then some (rngL lo hi) else none
  | _ => none

/-! ### slots -/
def opd : Rv → Rv
  | .own d => .dat d
  | r => r
def valO (Γ : List Sl) : Rv → Option D
  | .dat d => some d
  | .own d => some d
  | .slot i => match Γ[i]? with
    | some (.own d) => some d
    | some (.dat d) => some d
    | _ => none
def valOs (Γ : List Sl) : List Rv → Option (List D)
  | [] => some []
  | r :: rs => match valO Γ r, valOs Γ rs with
    | some d, some ds => some (d :: ds)
    | _, _ => none
def frz (Γ : List Sl) : Rv → Option (D × List Sl)
  | .dat d => some (d, Γ)
  | .own d => some (d, Γ)
  | .slot i => match Γ[i]? with
    | some (.own d) => some (d, Γ.set i (.dat d))
    | some (.dat d) => some (d, Γ)
    | _ => none
def frzs (Γ : List Sl) : List Rv → Option (List D × List Sl)
  | [] => some ([], Γ)
  | r :: rs => match frz Γ r with
    | some (d, Γ1) => match frzs Γ1 rs with
      | some (ds, Γ2) => some (d :: ds, Γ2)
      | none => none
    | none => none
def ownL (Γ : List Sl) (i : Nat) : Option (List D) := match Γ[i]? with
  | some (.own (.lst ds)) => some ds
  | _ => none
def setG : IG → D → List Sl → Option (List Sl)
  | .name i, d, Γ => some (Γ.set i (.dat d))
  | .pair a b, .tup [x, y], Γ => match setG a x Γ with
    | some Γ1 => setG b y Γ1
    | none => none
  | .three a b c, .tup [x, y, z], Γ => match setG a x Γ with
    | some Γ1 => match setG b y Γ1 with
      | some Γ2 => setG c z Γ2
      | none => none
    | none => none
  | .four a b c e, .tup [x, y, z, w], Γ => match setG a x Γ with
    | some Γ1 => match setG b y Γ1 with
      | some Γ2 => match setG c z Γ2 with
        | some Γ3 => setG e w Γ3
        | none => none
      | none => none
    | none => none
  | _, _, _ => none
def wipeG (Γ : List Sl) : List Nat → List Sl
  | [] => Γ
  | v :: vs => (wipeG Γ vs).set v .no
/-- the slots vs hold no own object -/
def clearG (Γ : List Sl) : List Nat → Bool
  | [] => true
  | v :: vs => (match Γ[v]? with | some (.own _) => false | _ => true) && clearG Γ vs
/-- the slots vs as they were in Γ -/
def backG (Γ Γ' : List Sl) : List Nat → List Sl
  | [] => Γ'
  | v :: vs => (backG Γ Γ' vs).set v (Γ[v]?.getD .no)
/-- a slot's object is frozen, all else stays -/
def fixRv (Γ : List Sl) : Rv → Option (Rv × List Sl)
  | .slot i => match frz Γ (.slot i) with
    | some (d, Γ') => some (.dat d, Γ')
    | none => none
  | r => some (r, Γ)
def putRv (i : Nat) : Rv → List Sl → List Sl
  | .dat d, Γ => Γ.set i (.dat d)
  | .own d, Γ => Γ.set i (.own d)
  | .slot _, Γ => Γ
def IG.slots : IG → List Nat
  | .name i => [i]
  | .pair a b => a.slots ++ b.slots
  | .three a b c => a.slots ++ b.slots ++ c.slots
  | .four a b c d => a.slots ++ b.slots ++ c.slots ++ d.slots

/-! ### loops -/
def lcLoop (body : D → List Sl → M S (Option D × List Sl)) : List D → List Sl → M S (List D × List Sl)
  | [], Γ => .pure ([], Γ)
  | d :: ds, Γ => (body d Γ).bind fun p => (lcLoop body ds p.2).bind fun q => .pure (p.1.toList ++ q.1, q.2)
def allLoop (body : D → List Sl → M S (Bool × List Sl)) : List D → List Sl → M S (Bool × List Sl)
  | [], Γ => .pure (true, Γ)
  | d :: ds, Γ => (body d Γ).bind fun p => M.cond p.1 (allLoop body ds p.2) (.pure (false, p.2))
inductive Fl where
  | nx (Γ : List Sl) | rt (d : D) | bk (Γ : List Sl) | ct (Γ : List Sl)
def forLoop (body : D → List Sl → M S Fl) : List D → List Sl → M S Fl
  | [], Γ => .pure (.nx Γ)
  | d :: ds, Γ => (body d Γ).bind fun f => match f with
    | .nx Γ' => forLoop body ds Γ'
    | .ct Γ' => forLoop body ds Γ'
    | .bk Γ' => .pure (.nx Γ')
    | .rt d => .pure (.rt d)
def whileLoop (test : List Sl → M S (Bool × List Sl)) (body : List Sl → M S Fl) : Nat → List Sl → M S Fl
  | 0, _ => .fail
  | n + 1, Γ => (test Γ).bind fun p => M.cond p.1 ((body p.2).bind fun f => match f with
    | .nx Γ' => whileLoop test body n Γ'
    | .ct Γ' => whileLoop test body n Γ'
    | .bk Γ' => .pure (.nx Γ')
    | .rt d => .pure (.rt d)) (.pure (.nx p.2))

/-! ### what it computes -/
abbrev TEv (S : Type) := List Sl → M S (Rv × List Sl)
abbrev TEs (S : Type) := List Sl → M S (List Rv × List Sl)
abbrev TOv (S : Type) := List Sl → M S (Option Int × List Sl)
abbrev TTv (S : Type) := List Sl → M S (Bool × List Sl)
abbrev TIv (S : Type) := List Sl → M S (List D × List Sl)
abbrev TSv (S : Type) := List Sl → M S Fl
/-- the operand at its use -/
def use (Γ : List Sl) (r : Rv) : M S D := M.opt (valO Γ (opd r))
def isB : D → M S Bool
  | .bl b => .pure b
  | _ => .fail
def isI : D → M S Int
  | .int i => .pure i
  | _ => .fail

def eVar (i : Nat) : TEv S := fun Γ => match Γ[i]? with
  | some (.dat d) => .pure (.dat d, Γ)
  | some (.own _) => .pure (.slot i, Γ)
  | _ => .fail
def eK (d : D) : TEv S := fun Γ => .pure (.dat d, Γ)
def e2 (f : D → D → M S Rv) (a b : TEv S) : TEv S := fun Γ => (a Γ).bind fun p => (b p.2).bind fun q => (use q.2 p.1).bind fun x => (use q.2 q.1).bind fun y => (f x y).bind fun r => .pure (r, q.2)
def eBin (o : Bo) (a b : TEv S) : TEv S := e2 (opBin o) a b
def asD (m : M S D) : M S Rv := m.bind fun d => .pure (.dat d)
def eNeg (a : TEv S) : TEv S := fun Γ => (a Γ).bind fun p => (use p.2 p.1).bind fun x => (isI x).bind fun i => .pure (.dat (.int (-i)), p.2)
def eCmp (o : Cm) (a b : TEv S) : TEv S := e2 (fun x y => asD (opCmp o x y)) a b
def eChain (o u : Cm) (a b c : TEv S) : TEv S := fun Γ => (a Γ).bind fun p => (b p.2).bind fun q => (use q.2 p.1).bind fun x => (use q.2 q.1).bind fun y => (opCmp o x y).bind fun r => (isB r).bind fun t =>
  M.cond t ((c q.2).bind fun w => (use w.2 q.1).bind fun y' => (use w.2 w.1).bind fun z => (opCmp u y' z).bind fun r' => .pure (.dat r', w.2)) (.pure (.dat (.bl false), q.2))
def eAnd (a b : TEv S) : TEv S := fun Γ => (a Γ).bind fun p => (use p.2 p.1).bind fun x => (isB x).bind fun t => M.cond t (b p.2) (.pure (.dat (.bl false), p.2))
def eOr (a b : TEv S) : TEv S := fun Γ => (a Γ).bind fun p => (use p.2 p.1).bind fun x => (isB x).bind fun t => M.cond t (.pure (.dat (.bl true), p.2)) (b p.2)
def eNot (a : TEv S) : TEv S := fun Γ => (a Γ).bind fun p => (use p.2 p.1).bind fun x => (isB x).bind fun t => .pure (.dat (.bl (!t)), p.2)
def eIf (t : TTv S) (a b : TEv S) : TEv S := fun Γ => (t Γ).bind fun p => M.cond p.1 (a p.2) (b p.2)
def sNil : TEs S := fun Γ => .pure ([], Γ)
def sCons (e : TEv S) (es : TEs S) : TEs S := fun Γ => (e Γ).bind fun p => (es p.2).bind fun q => .pure (opd p.1 :: q.1, q.2)
def eTup (es : TEs S) : TEv S := fun Γ => (es Γ).bind fun p => (M.opt (frzs p.2 p.1)).bind fun q => .need (q.1.length ≤ 1000000) (.pure (.dat (.tup q.1), q.2))
def eLst (es : TEs S) : TEv S := fun Γ => (es Γ).bind fun p => (M.opt (frzs p.2 p.1)).bind fun q => .need (q.1.length ≤ 1000000) (.pure (.own (.lst q.1), q.2))
def eIdx (a b : TEv S) : TEv S := e2 (fun x y => asD (opIdx x y)) a b
def oNone : TOv S := fun Γ => .pure (none, Γ)
def oSome (e : TEv S) : TOv S := fun Γ => (e Γ).bind fun p => (use p.2 p.1).bind fun x => (isI x).bind fun i => .pure (some i, p.2)
def eSlc (a : TEv S) (lo hi : TOv S) : TEv S := fun Γ => (a Γ).bind fun p => (lo p.2).bind fun q => (hi q.2).bind fun w => (use w.2 p.1).bind fun x => (opSlc x q.1 w.1).bind fun r => .pure (r, w.2)
def eRev (a : TEv S) : TEv S := fun Γ => (a Γ).bind fun p => (use p.2 p.1).bind fun x => (opRev x).bind fun r => .pure (r, p.2)
def eCall (F : List D → M S D) (es : TEs S) : TEv S := fun Γ => (es Γ).bind fun p => (M.opt (frzs p.2 p.1)).bind fun q => (F q.1).bind fun d => .pure (.dat d, q.2)
def eIsi (b : Bi) (e : TEv S) : TEv S := fun Γ => (e Γ).bind fun p => (use p.2 p.1).bind fun x => (M.opt (x.isInst b)).bind fun t => .pure (.dat (.bl t), p.2)
def eBi (b : Bi) (es : TEs S) : TEv S := fun Γ => (es Γ).bind fun p => (M.opt (valOs p.2 p.1)).bind fun xs => (opBi b xs).bind fun r => .pure (r, p.2)
def sameSeq : D → D → Bool
  | .tup _, .tup _ => true
  | .lst _, .lst _ => true
  | _, _ => false
def eMeth (m : Mt) (o e : TEv S) : TEv S := fun Γ => (o Γ).bind fun p => (use p.2 p.1).bind fun x0 => .need (sameSeq x0 x0 = true) ((e p.2).bind fun q => (use q.2 p.1).bind fun x => (use q.2 q.1).bind fun y => .need (sameSeq x0 x = true) ((opMeth m x y).bind fun r => .pure (.dat r, q.2)))
def eApp (i : Nat) (e : TEv S) : TEv S := fun Γ => (M.opt (ownL Γ i)).bind fun _ => (e Γ).bind fun p => (M.opt (frz p.2 (opd p.1))).bind fun q => (M.opt (ownL q.2 i)).bind fun ds => .need (ds.length ≤ 1000000) (.pure (.dat .non, q.2.set i (.own (.lst (ds ++ [q.1])))))
def ePopAt (i : Nat) (e : TEv S) : TEv S := fun Γ => (M.opt (ownL Γ i)).bind fun _ => (e Γ).bind fun p => (use p.2 p.1).bind fun x => (isI x).bind fun j => (M.opt (ownL p.2 i)).bind fun ds => .need (0 ≤ j ∧ j < 1000000) ((M.opt ds[j.toNat]?).bind fun d => .pure (.dat d, p.2.set i (.own (.lst (ds.eraseIdx j.toNat)))))
def ePop (i : Nat) : TEv S := fun Γ => (M.opt (ownL Γ i)).bind fun ds => (M.opt ds[ds.length - 1]?).bind fun d => .pure (.dat d, Γ.set i (.own (.lst ds.dropLast)))
def isL : D → M S (List D)
  | .lst ds => .pure ds
  | _ => .fail
def eExt (i : Nat) (e : TEv S) : TEv S := fun Γ => (M.opt (ownL Γ i)).bind fun _ => (e Γ).bind fun p => (M.opt (frz p.2 (opd p.1))).bind fun q => (M.opt (ownL q.2 i)).bind fun ds => (isL q.1).bind fun es => .need (ds.length ≤ 1000000 ∧ es.length ≤ 1000000) (.pure (.dat .non, q.2.set i (.own (.lst (ds ++ es)))))
def qVal (e : TEv S) : TTv S := fun Γ => (e Γ).bind fun p => (use p.2 p.1).bind fun x => (M.opt x.truth).bind fun b => .pure (b, p.2)
def qAnd (a b : TTv S) : TTv S := fun Γ => (a Γ).bind fun p => M.cond p.1 (b p.2) (.pure (false, p.2))
def qOr (a b : TTv S) : TTv S := fun Γ => (a Γ).bind fun p => M.cond p.1 (.pure (true, p.2)) (b p.2)
def qNot (a : TTv S) : TTv S := fun Γ => (a Γ).bind fun p => .pure (!p.1, p.2)

def wIt (e : TEv S) : TIv S := fun Γ => (e Γ).bind fun p => (M.opt (frz p.2 (opd p.1))).bind fun q => (M.opt (itemsOf q.1)).bind fun ds => .pure (ds, q.2)
def wR1 (a : TEv S) : TIv S := fun Γ => (a Γ).bind fun p => (use p.2 p.1).bind fun x => (isI x).bind fun j => .need (-1000000 ≤ j ∧ j ≤ 1000000) (.pure (rngL 0 j, p.2))
def wR2 (a b : TEv S) : TIv S := fun Γ => (a Γ).bind fun p => (b p.2).bind fun q => (use q.2 p.1).bind fun x => (use q.2 q.1).bind fun y => (isI x).bind fun i => (isI y).bind fun j =>
  .need (-1000000 ≤ i ∧ i ≤ 1000000 ∧ -1000000 ≤ j ∧ j ≤ 1000000) (.pure (rngL i j, q.2))

def cSet (i : Nat) (e : TEv S) : TSv S := fun Γ => (e Γ).bind fun p => (M.opt (fixRv p.2 p.1)).bind fun q => .pure (.nx (putRv i q.1 q.2))
def cUnp (g : IG) (e : TEv S) : TSv S := fun Γ => (e Γ).bind fun p => (M.opt (frz p.2 (opd p.1))).bind fun q => (M.opt (setG g q.1 q.2)).bind fun Γ' => .pure (.nx Γ')
def cPar (i j : Nat) (a b : TEv S) : TSv S := fun Γ => (a Γ).bind fun p => (b p.2).bind fun q => (M.opt (fixRv q.2 p.1)).bind fun x => (M.opt (fixRv x.2 q.1)).bind fun y => .pure (.nx (putRv i x.1 (putRv j y.1 y.2)))
def cPar3 (i j l : Nat) (a b c : TEv S) : TSv S := fun Γ => (a Γ).bind fun p => (b p.2).bind fun q => (c q.2).bind fun w => (M.opt (fixRv w.2 p.1)).bind fun x => (M.opt (fixRv x.2 q.1)).bind fun y => (M.opt (fixRv y.2 w.1)).bind fun z =>
  .pure (.nx (putRv i x.1 (putRv j y.1 (putRv l z.1 z.2))))
def augOp : Bo → Int → Int → M S D
  | .add, x, y => .pure (.int (x + y))
  | .sub, x, y => .pure (.int (x - y))
  | .mul, x, y => .need ((-(2 ^ 64) < x ∧ x < 2 ^ 64) ∨ (-(2 ^ 64) < y ∧ y < 2 ^ 64)) (.pure (.int (x * y)))
  | .band, x, y => .pure (.int (Builtin.bitAnd x y))
  | .bxor, x, y => .pure (.int (Builtin.bitXor x y))
  | _, _, _ => .fail
def intAt (Γ : List Sl) (i : Nat) : Option Int := match Γ[i]? with
  | some (.dat (.int x)) => some x
  | _ => none
def cAug (i : Nat) (o : Bo) (e : TEv S) : TSv S := fun Γ => (M.opt (intAt Γ i)).bind fun x => (e Γ).bind fun p => (use p.2 p.1).bind fun y => (isI y).bind fun y => (augOp o x y).bind fun r => .pure (.nx (p.2.set i (.dat r)))
def cPut (i : Nat) (a e : TEv S) : TSv S := fun Γ => (e Γ).bind fun p => (M.opt (ownL p.2 i)).bind fun _ => (a p.2).bind fun w => (use w.2 w.1).bind fun x => (isI x).bind fun k => (M.opt (frz w.2 (opd p.1))).bind fun q => (M.opt (ownL q.2 i)).bind fun ds =>
  .need (0 ≤ k ∧ k < (ds.length : Int) ∧ ds.length ≤ 1000000) (.pure (.nx (q.2.set i (.own (.lst (ds.set k.toNat q.1))))))
def cAugAt (i : Nat) (a : TEv S) (o : Bo) (e : TEv S) : TSv S := fun Γ => (M.opt (ownL Γ i)).bind fun _ => (a Γ).bind fun w => (use w.2 w.1).bind fun x => (isI x).bind fun k => (M.opt (ownL w.2 i)).bind fun ds =>
  .need (0 ≤ k ∧ k < (ds.length : Int) ∧ ds.length ≤ 1000000) ((M.opt ds[k.toNat]?).bind fun old => (isI old).bind fun old => (e w.2).bind fun p => (use p.2 p.1).bind fun y => (isI y).bind fun y =>
    (augOp o old y).bind fun r => (M.opt (ownL p.2 i)).bind fun ds' => .need (k < (ds'.length : Int)) (.pure (.nx (p.2.set i (.own (.lst (ds'.set k.toNat r)))))))
def cDrop (e : TEv S) : TSv S := fun Γ => (e Γ).bind fun p => .pure (.nx p.2)
def cRet (e : TEv S) : TSv S := fun Γ => (e Γ).bind fun p => (M.opt (frz p.2 (opd p.1))).bind fun q => .pure (.rt q.1)
def cRetN : TSv S := fun _ => .pure (.rt .non)
def cPass : TSv S := fun Γ => .pure (.nx Γ)
def cBrk : TSv S := fun Γ => .pure (.bk Γ)
def cCont : TSv S := fun Γ => .pure (.ct Γ)
def cNever : TSv S := fun _ => .fail
def cIf (t : TTv S) (a b : TSv S) : TSv S := fun Γ => (t Γ).bind fun p => M.cond p.1 (a p.2) (b p.2)
def cFor (g : IG) (it : TIv S) (b : TSv S) : TSv S := fun Γ => (it Γ).bind fun p => forLoop (fun d Γ1 => (M.opt (setG g d Γ1)).bind fun Γ2 => b Γ2) p.1 p.2
def cWhile (t : TTv S) (b : TSv S) : TSv S := fun Γ => .upTo fun n => whileLoop t b n Γ
def cNil : TSv S := fun Γ => .pure (.nx Γ)
def cCons (a b : TSv S) : TSv S := fun Γ => (a Γ).bind fun f => match f with
  | .nx Γ' => b Γ'
  | f => .pure f
/-- a list comprehension: its names vs are its own -/
def lcBody (vs : List Nat) (g : IG) (t : TTv S) (e : TEv S) : D → List Sl → M S (Option D × List Sl) := fun d Γ => (M.opt (setG g d Γ)).bind fun Γ2 => (t Γ2).bind fun q =>
  M.cond q.1 ((e q.2).bind fun w => (M.opt (frz w.2 (opd w.1))).bind fun z => .pure (some z.1, wipeG z.2 vs)) (.pure (none, wipeG q.2 vs))
def eLc (vs : List Nat) (g : IG) (it : TIv S) (t : TTv S) (e : TEv S) : TEv S := fun Γ => (it Γ).bind fun p => .need (clearG p.2 vs = true ∧ p.1.length ≤ 1000000) ((lcLoop (lcBody vs g t e) p.1 (wipeG p.2 vs)).bind fun w => .pure (.own (.lst w.1), backG p.2 w.2 vs))
/-- all of a generator expression: vs its own names; bd: a turn, does it hold -/
def allBody (g : IG) (e : TEv S) : D → List Sl → M S (Bool × List Sl) := fun d Γ => (M.opt (setG g d Γ)).bind fun Γ2 => (e Γ2).bind fun w => (use w.2 w.1).bind fun x => (isB x).bind fun b => .pure (b, w.2)
def allBody2 (g : IG) (w : TIv S) (bd : D → List Sl → M S (Bool × List Sl)) : D → List Sl → M S (Bool × List Sl) := fun d Γ => (M.opt (setG g d Γ)).bind fun Γ2 => (w Γ2).bind fun p => .need (p.1.length ≤ 1000) (allLoop bd p.1 p.2)
def eAll (vs : List Nat) (w : TIv S) (bd : D → List Sl → M S (Bool × List Sl)) : TEv S := fun Γ => (w Γ).bind fun p => .need (clearG p.2 vs = true) ((allLoop bd p.1 (wipeG p.2 vs)).bind fun r => .pure (.dat (.bl r.1), backG p.2 (wipeG r.2 vs) vs))
def qYes : TTv S := fun Γ => .pure (true, Γ)
/-- a def: its body over n slots -/
def runD (n : Nat) (b : TSv S) (args : List D) : M S D := (b (args.map Sl.dat ++ List.replicate (n - args.length) .no)).bind fun f => match f with
  | .rt d => .pure d
  | .nx _ => .pure .non
  | _ => .fail
end Ev
/-! from E3.lean -/
set_option maxRecDepth 100000
set_option maxHeartbeats 4000000
/-! Ev, part 3: the operations by values are right. -/
namespace Ev
open PySem L2

section
variable {K : PySem.W.Frag} {T : Nat → Option Addr} {G H : Hp}
/-- an operand: frozen data, or an own object as it stands -/
def DO (K : PySem.W.Frag) (T : Nat → Option Addr) (G H : Hp) (v : V) (d : D) : Prop := DR K T G v d ∨ ∃ a, v = .ref a ∧ OwnAt K T G H a d
theorem DO.int {v : V} {i : Int} (h : DO K T G H v (.int i)) : v = .int i := by
  rcases h with h | ⟨a, rfl, h⟩
  · cases h; rfl
  · exact h.elim
theorem DO.bl {v : V} {i : Bool} (h : DO K T G H v (.bl i)) : v = .bl i := by
  rcases h with h | ⟨a, rfl, h⟩
  · cases h; rfl
  · exact h.elim
theorem DO.non {v : V} (h : DO K T G H v .non) : v = .non := by
  rcases h with h | ⟨a, rfl, h⟩
  · cases h; rfl
  · exact h.elim
theorem DO.str {v : V} {x : Str} (h : DO K T G H v (.str x)) : v = .str x := by
  rcases h with h | ⟨a, rfl, h⟩
  · cases h; rfl
  · exact h.elim
theorem DO.tup (s : Sub G H) {v : V} {ds : List D} (h : DO K T G H v (.tup ds)) : ∃ a xs, v = .ref a ∧ TpT K H a xs ∧ DRs K T G xs ds := by
  rcases h with h | ⟨a, rfl, h⟩
  · cases h with
    | tup h r => exact ⟨_, _, rfl, s.tp h, r⟩
  · exact h.elim
theorem DO.lst (s : Sub G H) {v : V} {ds : List D} (h : DO K T G H v (.lst ds)) : ∃ a xs, v = .ref a ∧ H a = some (.lst xs) ∧ DRs K T G xs ds := by
  rcases h with h | ⟨a, rfl, xs, h, r⟩
  · cases h with
    | lst h r => exact ⟨_, _, rfl, s _ _ h, r⟩
  · exact ⟨_, _, rfl, h, r⟩
theorem DO.scr (s : Sub G H) {v : V} {ds : List D} (h : DO K T G H v (.scr ds)) : ∃ a xs, v = .ref a ∧ SqL K H a xs ∧ DRs K T G xs ds := by
  rcases h with h | ⟨a, rfl, h⟩
  · cases h with
    | scr h r => exact ⟨_, _, rfl, s.sl h, r⟩
  · exact h.elim
theorem DO.rng (s : Sub G H) {v : V} {lo hi : Int} (h : DO K T G H v (.rng lo hi)) : ∃ a, v = .ref a ∧ H a = some (.rng lo hi) := by
  rcases h with h | ⟨a, rfl, h⟩
  · cases h with
    | rng h => exact ⟨_, rfl, s _ _ h⟩
  · exact h.elim
mutual
theorem DR.dp (s : Sub G H) : ∀ {v : V} {d : D}, DR K T G v d → d.flat = true → Dp K H v d.toP
  | _, _, .non, _ => by rw [D.toP]; exact .non
  | _, _, .bl b, _ => by rw [D.toP]; exact .bl b
  | _, _, .int i, _ => by rw [D.toP]; exact .int i
  | _, _, .str x, _ => by rw [D.toP]; exact .str x
  | _, _, .tup h r, f => by
    rw [D.flat] at f
    rw [D.toP]
    exact .tup (s.tp h).sq (DRs.dp s r f)
  | _, _, .lst h r, f => by
    rw [D.flat] at f
    rw [D.toP]
    exact .lst (SqL.of (s _ _ h)) (DRs.dp s r f)
  | _, _, .rng _, f => by rw [D.flat] at f; cases f
  | _, _, .fn _, f => by rw [D.flat] at f; cases f
  | _, _, .ref _, f => by rw [D.flat] at f; cases f
  | _, _, .scr _ _, f => by rw [D.flat] at f; cases f
theorem DRs.dp (s : Sub G H) : ∀ {vs : List V} {ds : List D}, DRs K T G vs ds → flats ds = true → DpAll K H vs (toPs ds)
  | _, _, .nil, _ => by rw [toPs]; exact .nil
  | _, _, .cons h r, f => by
    rw [flats, Bool.and_eq_true] at f
    rw [toPs]
    exact .cons (DR.dp s h f.1) (DRs.dp s r f.2)
end
theorem DO.dp (s : Sub G H) {v : V} {d : D} (h : DO K T G H v d) (f : d.flat = true) : Dp K H v d.toP := by
  rcases h with h | ⟨a, rfl, h⟩
  · exact h.dp s f
  · cases d with
    | lst ds =>
      obtain ⟨xs, h, r⟩ := h
      rw [D.flat] at f
      rw [D.toP]
      exact .lst (SqL.of h) (r.dp s f)
    | _ => exact h.elim
end

/-- what follows a result r -/
def Kont {S : Type} (K : PySem.W.Frag) (T : Nat → Option Addr) (W : Wd S) (P G : Hp) (Γ : List Sl) (s : S) (σ : L2.St) (Q : VK) (r : Rv) : Prop :=
  ∀ v G' H', Sub G G' → Fr K T W P G' Γ s σ H' → RR K T W P G' Γ s σ H' v r → Q v H'

section
variable {S : Type} {K : PySem.W.Frag} {T : Nat → Option Addr} {W : Wd S} {P G H : Hp} {Γ : List Sl} {s : S} {σ : L2.St} {Q : VK}
theorem Kont.dat (k : Kont K T W P G Γ s σ Q (.dat d)) (F : Fr K T W P G Γ s σ H) {v : V} (h : DR K T G v d) : Q v H := k v G H (Sub.refl _) F (.dat h)
theorem Kont.newT {ds : List D} (k : Kont K T W P G Γ s σ Q (.dat (.tup ds))) (F : Fr K T W P G Γ s σ H) {xs : List V} (r : DRs K T G xs ds) : NewF H Q xs := fun p ob hp hd => by
  obtain ⟨F', n⟩ := F.newG hp (.frz ob (.tup xs))
  exact k _ _ _ (sub_upd n) F' (.dat (.tup (.inl ⟨ob, upd_same, hd⟩) (r.mono (sub_upd n))))
theorem Kont.newL {ds : List D} (k : Kont K T W P G Γ s σ Q (.own (.lst ds))) (F : Fr K T W P G Γ s σ H) {xs : List V} (r : DRs K T G xs ds) : ∀ p, H p = none → Q (.ref p) (upd H p (.lst xs)) := fun p hp => by
  obtain ⟨F', m, off⟩ := F.new hp (.lst xs)
  exact k _ _ _ (Sub.refl _) F' (.own ⟨_, upd_same, r⟩ m off)
theorem Kont.newR {lo hi : Int} (k : Kont K T W P G Γ s σ Q (.dat (.rng lo hi))) (F : Fr K T W P G Γ s σ H) : ∀ p, H p = none → Q (.ref p) (upd H p (.rng lo hi)) := fun p hp => by
  obtain ⟨F', n⟩ := F.newG hp (.rng lo hi)
  exact k _ _ _ (sub_upd n) F' (.dat (.rng upd_same))
theorem size_ok {n : Nat} (h : n ≤ 2000000) : n ≤ sizeLine := by rw [sizeLine_eq]; omega
theorem size_lt {n : Nat} (h : n ≤ 2000000) : n < sizeLine := by rw [sizeLine_eq]; omega

def rBin (K : PySem.W.Frag) : Bo → R2
  | .add => fun x y H Q => rI0 (fun i j => .int (i + j)) x y H Q ∨ rCatF K x y H Q ∨ rCat x y H Q
  | .sub => rI0 fun i j => .int (i - j)
  | .mul => fun x y H Q => rI CMul (fun i j => .int (i * j)) x y H Q ∨ rRep x y H Q ∨ rMulF K x y H Q
  | .fdiv => rI CDivN fun i j => .int (i.fdiv j)
  | .mod => rI (fun _ j => j ≠ 0) fun i j => .int (i.fmod j)
  | .pow => rI CPow fun i j => .int (i ^ j.toNat)
  | .band => rI0 fun i j => .int (Builtin.bitAnd i j)
  | .bxor => rI0 fun i j => .int (Builtin.bitXor i j)
  | .shr => rI (fun _ j => 0 ≤ j) fun i j => .int (i / 2 ^ j.toNat)
def opOf : Bo → Operator
  | .add => .Add | .sub => .Sub | .mul => .Mult | .fdiv => .FloorDiv | .mod => .Mod | .pow => .Pow | .band => .BitAnd | .bxor => .BitXor | .shr => .RShift
theorem rBin_ok {X : Cx} (o : Bo) : OpR X (binaryOp (opOf o)) (rBin X.K o) := by
  cases o with
  | add => exact op_add.or (op_catF.or op_cat)
  | sub => exact op_sub
  | mul => exact op_mul.or (op_rep.or op_mulF)
  | fdiv => exact op_fdivN
  | mod => exact op_modN
  | pow => exact op_pow
  | band => exact op_and
  | bxor => exact op_xor
  | shr => exact op_shr
theorem len_flat {α : Type} (xs : List α) (n : Nat) : (List.replicate n xs).flatten.length = n * xs.length := by
  induction n with
  | zero => simp
  | succ n ih => rw [List.replicate_succ, List.flatten_cons, List.length_append, ih, Nat.succ_mul, Nat.add_comm]
theorem bin_ok {o : Bo} {x y : D} {v w : V} {E0 : Xn → S → Prop} {Qr : Rv → S → Prop} (F : Fr K T W P G Γ s σ H) (hx : DO K T G H v x) (hy : DO K T G H w y) (h : (opBin o x y).run s Qr E0) (hq : ∀ r, Qr r s → Kont K T W P G Γ s σ Q r) : rBin K o v w H Q := by
  have sub := F.wf.gh
  cases o with
  | add =>
    cases x with
    | int i =>
      cases y with
      | int j => exact .inl ⟨i, j, hx.int, hy.int, (hq _ h).dat F (.int _)⟩
      | _ => exact h.elim
    | tup a =>
      cases y with
      | tup b =>
        obtain ⟨⟨h1, h2⟩, h⟩ := h
        obtain ⟨p, xs, rfl, hp, rp⟩ := hx.tup sub
        obtain ⟨q, ys, rfl, hq', rq⟩ := hy.tup sub
        have l1 := rp.length
        have l2 := rq.length
        have k := hq _ h
        have rr := rp.append rq
        refine .inr (.inl ⟨p, q, xs, ys, rfl, rfl, hp.sq, hq'.sq, size_ok (by omega), fun e => ?_, fun _ e => ?_, k.newT F rr⟩)
        · subst e
          cases rp
          rcases hy with hy | ⟨a, _, z⟩
          · exact k.dat F hy
          · exact z.elim
        · subst e
          cases rq
          rw [List.append_nil] at k
          rcases hx with hx | ⟨a, _, z⟩
          · exact k.dat F hx
          · exact z.elim
      | _ => exact h.elim
    | lst a =>
      cases y with
      | lst b =>
        obtain ⟨⟨h1, h2⟩, h⟩ := h
        obtain ⟨p, xs, rfl, hp, rp⟩ := hx.lst sub
        obtain ⟨q, ys, rfl, hq', rq⟩ := hy.lst sub
        have l1 := rp.length
        have l2 := rq.length
        exact .inr (.inr ⟨p, q, xs, ys, rfl, rfl, hp, hq', size_ok (by omega), (hq _ h).newL F (rp.append rq)⟩)
      | _ => exact h.elim
    | _ => exact h.elim
  | sub =>
    cases x with
    | int i =>
      cases y with
      | int j => exact ⟨i, j, hx.int, hy.int, (hq _ h).dat F (.int _)⟩
      | _ => exact h.elim
    | _ => exact h.elim
  | mul =>
    cases x with
    | int i =>
      cases y with
      | int j => exact .inl ⟨i, j, hx.int, hy.int, h.1, (hq _ h.2).dat F (.int _)⟩
      | _ => exact h.elim
    | lst a =>
      cases y with
      | int j =>
        obtain ⟨⟨h1, h2, h3⟩, h⟩ := h
        obtain ⟨p, xs, rfl, hp, rp⟩ := hx.lst sub
        have l1 := rp.length
        exact .inr (.inl ⟨p, j, xs, rfl, hy.int, hp, by omega, by omega, size_ok (by rw [l1]; omega), (hq _ h).newL F (rp.flat _)⟩)
      | _ => exact h.elim
    | tup a =>
      cases y with
      | int j =>
        obtain ⟨⟨h1, h2, h3⟩, h⟩ := h
        obtain ⟨p, xs, rfl, hp, rp⟩ := hx.tup sub
        have l1 := rp.length
        have k := hq _ h
        refine .inr (.inr ⟨p, j, xs, rfl, hy.int, hp.sq, h1, h2, by rw [l1]; exact h3, fun e => ?_, k.newT F (rp.flat _)⟩)
        have e2 : (List.replicate j.toNat a).flatten = a := by
          rcases e with e | e
          · subst e
            cases rp
            exact List.eq_nil_of_length_eq_zero (by rw [len_flat]; rfl)
          · subst e; exact List.append_nil a
        rw [e2] at k
        rcases hx with hx | ⟨_, _, z⟩
        · exact k.dat F hx
        · exact z.elim
      | _ => exact h.elim
    | _ => exact h.elim
  | fdiv =>
    cases x with
    | int i =>
      cases y with
      | int j => exact ⟨i, j, hx.int, hy.int, h.1, (hq _ h.2).dat F (.int _)⟩
      | _ => exact h.elim
    | _ => exact h.elim
  | mod =>
    cases x with
    | int i =>
      cases y with
      | int j => exact ⟨i, j, hx.int, hy.int, h.1, (hq _ h.2).dat F (.int _)⟩
      | _ => exact h.elim
    | _ => exact h.elim
  | pow =>
    cases x with
    | int i =>
      cases y with
      | int j => exact ⟨i, j, hx.int, hy.int, h.1, (hq _ h.2).dat F (.int _)⟩
      | _ => exact h.elim
    | _ => exact h.elim
  | band =>
    cases x with
    | int i =>
      cases y with
      | int j => exact ⟨i, j, hx.int, hy.int, (hq _ h).dat F (.int _)⟩
      | _ => exact h.elim
    | _ => exact h.elim
  | bxor =>
    cases x with
    | int i =>
      cases y with
      | int j => exact ⟨i, j, hx.int, hy.int, (hq _ h).dat F (.int _)⟩
      | _ => exact h.elim
    | _ => exact h.elim
  | shr =>
    cases x with
    | int i =>
      cases y with
      | int j => exact ⟨i, j, hx.int, hy.int, h.1, (hq _ h.2).dat F (.int _)⟩
      | _ => exact h.elim
    | _ => exact h.elim
end
end Ev
/-! from E3b.lean -/
set_option maxRecDepth 100000
set_option maxHeartbeats 4000000
/-! Ev, part 3b: comparisons, subscripts, built-ins by values. -/
namespace Ev
open PySem PySem.Spec PyProof.Rows L2

section
variable {X : Cx}
theorem pl_depth {A : Around} {d e : PyData} (h : d.depth ≤ 60) (hu : A.units + 64 < cLine) : A.units + min d.depth e.depth < cLine := by
  have := Nat.min_le_left d.depth e.depth
  omega
theorem pl_depthR {A : Around} {n : Nat} {e : PyData} (h : e.depth ≤ 60) (hu : A.units + 64 < cLine) : A.units + 1 + min n e.depth < cLine := by
  have := Nat.min_le_right n e.depth
  omega
def rEqP (K : PySem.W.Frag) : R2 := fun x y H Q => ∃ d e, Dp K H x d ∧ Dp K H y e ∧ d.plain = true ∧ e.plain = true ∧ d.depth ≤ 60 ∧ Q (.bl (PyData.eqv d e)) H
def rNeP (K : PySem.W.Frag) : R2 := fun x y H Q => ∃ d e, Dp K H x d ∧ Dp K H y e ∧ d.plain = true ∧ e.plain = true ∧ d.depth ≤ 60 ∧ Q (.bl (!PyData.eqv d e)) H
theorem op_eqP (hu : X.A.units + 64 < cLine) : OpR X (compareOp .Eq) (rEqP X.K) := by
  intro pins s σ H x y v u Q I rx ry h
  obtain ⟨d, e, hd, he, sd, se, hz, q⟩ := h
  obtain ⟨as, r1⟩ := Dp.reads I d x v hd rx
  obtain ⟨bs, r2⟩ := Dp.reads I e y u he ry
  exact SeqAt.eq_plain r1 r2 sd se (pl_depth hz hu) ⟨.bl _, H, I, rfl, q⟩
theorem op_neP (hu : X.A.units + 64 < cLine) : OpR X (compareOp .NotEq) (rNeP X.K) := by
  intro pins s σ H x y v u Q I rx ry h
  obtain ⟨d, e, hd, he, sd, se, hz, q⟩ := h
  obtain ⟨as, r1⟩ := Dp.reads I d x v hd rx
  obtain ⟨bs, r2⟩ := Dp.reads I e y u he ry
  exact SeqAt.ne_plain r1 r2 sd se (pl_depth hz hu) ⟨.bl _, H, I, rfl, q⟩
/-- the items of a list or a tuple, as data -/
def Seqs (K : PySem.W.Frag) (H : Hp) (y : V) (ds : List PyData) : Prop := Dp K H y (.list ds) ∨ Dp K H y (.tuple ds)
def rMem (K : PySem.W.Frag) (neg : Bool) : R2 := fun x y H Q => ∃ d ds, Dp K H x d ∧ Seqs K H y ds ∧ d.plain = true ∧ PyData.plainAll ds = true ∧ d.depth ≤ 60 ∧ Q (.bl (if neg then !ds.any fun z => PyData.eqv z d else ds.any fun z => PyData.eqv z d)) H
theorem op_mem (hu : X.A.units + 64 < cLine) : OpR X (compareOp .In) (rMem X.K false) := by
  intro pins s σ H x y v u Q I rx ry h
  obtain ⟨d, ds, hd, he, sd, se, hz, q⟩ := h
  obtain ⟨as, r1⟩ := Dp.reads I d x v hd rx
  rcases he with he | he
  · obtain ⟨bs, r2⟩ := Dp.reads I _ y u he ry
    exact SeqAt.in_list_data r2 r1 se sd (pl_depthR hz hu) ⟨.bl _, H, I, rfl, q⟩
  · obtain ⟨bs, r2⟩ := Dp.reads I _ y u he ry
    exact SeqAt.in_tuple_data r2 r1 se sd (pl_depthR hz hu) ⟨.bl _, H, I, rfl, q⟩
theorem op_nmem (hu : X.A.units + 64 < cLine) : OpR X (compareOp .NotIn) (rMem X.K true) := by
  intro pins s σ H x y v u Q I rx ry h
  obtain ⟨d, ds, hd, he, sd, se, hz, q⟩ := h
  obtain ⟨as, r1⟩ := Dp.reads I d x v hd rx
  rcases he with he | he
  · obtain ⟨bs, r2⟩ := Dp.reads I _ y u he ry
    exact SeqAt.notIn_list_data r2 r1 se sd (pl_depthR hz hu) ⟨.bl _, H, I, rfl, q⟩
  · obtain ⟨bs, r2⟩ := Dp.reads I _ y u he ry
    exact SeqAt.notIn_tuple_data r2 r1 se sd (pl_depthR hz hu) ⟨.bl _, H, I, rfl, q⟩

/-! ### index, count -/
theorem seq_reads {pins : List (Addr × Obj)} {s : Shared} {σ : L2.St} {H : Hp} {a : Addr} {ds : List PyData} (I : Inv X pins σ H s) (h : Dp X.K H (.ref a) (.list ds)) :
    ∃ vs, s.heap.IsList a vs ∧ vs.size ≤ sizeLine ∧ ∃ as, ReadsAll s.heap vs.toList ds as := by
  cases h with
  | lst hs ha =>
    obtain ⟨its, rv, pl, hz⟩ := I.list hs
    obtain ⟨as, hr⟩ := Dp.readsAll I ds _ its ha rv
    exact ⟨its.toArray, pl.isList, by rw [List.size_toArray, ← rv.length]; exact hz, as, by simpa using hr⟩
theorem seq_readsT {pins : List (Addr × Obj)} {s : Shared} {σ : L2.St} {H : Hp} {a : Addr} {ds : List PyData} (I : Inv X pins σ H s) (h : Dp X.K H (.ref a) (.tuple ds)) :
    ∃ vs, s.heap.IsTuple a vs ∧ vs.size ≤ sizeLine ∧ ∃ as, ReadsAll s.heap vs.toList ds as := by
  cases h with
  | tup hs ha =>
    obtain ⟨its, rv, pl, hz⟩ := I.tuple hs
    obtain ⟨as, hr⟩ := Dp.readsAll I ds _ its ha rv
    exact ⟨its.toArray, pl, by rw [List.size_toArray, ← rv.length]; exact hz, as, by simpa using hr⟩
def rIxM (f : V → List PyData → Hp → Prop) (K : PySem.W.Frag) : V → List V → Hp → VK → Prop := fun x xs H Q => ∃ (y : V) (d : PyData) (ds : List PyData) (j : Nat), xs = [y] ∧ f x ds H ∧ Dp K H y d ∧
  PyData.plainAll ds = true ∧ d.plain = true ∧ d.depth ≤ 60 ∧ SeqAt.dataPlace ds d = some j ∧ Q (.int (j : Nat)) H
def rCtM (f : V → List PyData → Hp → Prop) (K : PySem.W.Frag) : V → List V → Hp → VK → Prop := fun x xs H Q => ∃ (y : V) (d : PyData) (ds : List PyData), xs = [y] ∧ f x ds H ∧ Dp K H y d ∧
  PyData.plainAll ds = true ∧ d.plain = true ∧ d.depth ≤ 60 ∧ Q (.int (ds.countP fun z => PyData.eqv z d : Nat)) H
theorem item_eq {A : Around} {s : Shared} {vs : Array Value} {ds : List PyData} {as bs : List Addr} {x : Value} {d : PyData} (rs : ReadsAll s.heap vs.toList ds as) (rx : Reads s.heap x d bs) (hxs : PyData.plainAll ds = true) (hd : d.plain = true)
    (hu : A.units + 1 + min (PyData.depthAll ds) d.depth < cLine) : ∀ j (hj : j < vs.size), SeqAt.EqAt A.in1 s vs[j] x (match ds[j]? with | some z => PyData.eqv z d | none => false) := fun j hj => by
  obtain ⟨h2, e⟩ := SeqAt.readOf_at rs hxs j hj
  have q := SeqAt.items_plain (A := A) rs rx hxs hd hu vs[j] (Array.getElem_mem hj)
  rw [e] at q
  rw [List.getElem?_eq_getElem h2]
  exact q
theorem place_hit {ds : List PyData} {d : PyData} {j : Nat} (hp : SeqAt.dataPlace ds d = some j) : j < ds.length ∧ (match ds[j]? with | some z => PyData.eqv z d | none => false) = true ∧
    ∀ m, m < j → (match ds[m]? with | some z => PyData.eqv z d | none => false) = false := by
  obtain ⟨h1, h2, h3⟩ := List.findIdx?_eq_some_iff_getElem.mp hp
  refine ⟨h1, ?_, fun m hm => ?_⟩
  · rw [List.getElem?_eq_getElem h1]; exact h2
  · rw [List.getElem?_eq_getElem (show m < ds.length by omega)]
    have := h3 m hm
    simpa using this
theorem mt_ixL (hu : X.A.units + 64 < cLine) : MtR X "list.index" (rIxM (fun x ds H => Dp X.K H x (.list ds)) X.K) := by
  intro pins s σ H x xs v us Q I rx rxs h
  obtain ⟨y, d, ds, j, rfl, hl, hy, sl, sd, hz, hp, q⟩ := h
  obtain ⟨u, rfl, ry⟩ := vals1 rxs
  obtain ⟨bs, r1⟩ := Dp.reads I d y u hy ry
  obtain ⟨a, rfl⟩ : ∃ a, x = .ref a := by cases hl; exact ⟨_, rfl⟩
  cases rx
  obtain ⟨vs, ⟨⟨cls, dd, data, sls⟩, ho, hc, n, hdt⟩, hsz, as, rs⟩ := seq_reads I hl
  simp only at hc hdt
  subst hc hdt
  obtain ⟨p1, p2, p3⟩ := place_hit hp
  have hl' := SeqAt.len_at rs
  rw [sizeLine_eq] at hsz
  exact call_meets PySem.F.slot_list_index ⟨_, ho, rfl⟩ PySem.F.entry_list_index (PySem.F.args_list_index_2 _ _)
    (SeqAt.list_index2_found a vs n dd sls u (fun j => match ds[j]? with | some z => PyData.eqv z d | none => false) j (by omega) (Nat.zero_le _) (by omega) p2 fun m _ _ hm => p3 m hm) ⟨ho, item_eq rs r1 sl sd (pl_depthR hz hu), .int (j : Nat), H, I.tok _, ⟨_, rfl⟩, q⟩
theorem mt_ixT (hu : X.A.units + 64 < cLine) : MtR X "tuple.index" (rIxM (fun x ds H => Dp X.K H x (.tuple ds)) X.K) := by
  intro pins s σ H x xs v us Q I rx rxs h
  obtain ⟨y, d, ds, j, rfl, hl, hy, sl, sd, hz, hp, q⟩ := h
  obtain ⟨u, rfl, ry⟩ := vals1 rxs
  obtain ⟨bs, r1⟩ := Dp.reads I d y u hy ry
  obtain ⟨a, rfl⟩ : ∃ a, x = .ref a := by cases hl; exact ⟨_, rfl⟩
  cases rx
  obtain ⟨vs, ⟨⟨cls, dd, data, sls⟩, ho, hc, n, hdt⟩, hsz, as, rs⟩ := seq_readsT I hl
  simp only at hc hdt
  subst hc hdt
  obtain ⟨p1, p2, p3⟩ := place_hit hp
  have hl' := SeqAt.len_at rs
  exact call_meets PySem.F.slot_tuple_index ⟨_, ho, rfl⟩ PySem.F.entry_tuple_index (PySem.F.args_tuple_index_2 _ _)
    (SeqAt.tuple_index2_found a vs n dd sls u (fun j => match ds[j]? with | some z => PyData.eqv z d | none => false) j (by omega) (Nat.zero_le _) (by omega) p2 fun m _ _ hm => p3 m hm) ⟨ho, item_eq rs r1 sl sd (pl_depthR hz hu), .int (j : Nat), H, I.tok _, ⟨_, rfl⟩, q⟩
theorem mt_ctL (hu : X.A.units + 64 < cLine) : MtR X "list.count" (rCtM (fun x ds H => Dp X.K H x (.list ds)) X.K) := by
  intro pins s σ H x xs v us Q I rx rxs h
  obtain ⟨y, d, ds, rfl, hl, hy, sl, sd, hz, q⟩ := h
  obtain ⟨u, rfl, ry⟩ := vals1 rxs
  obtain ⟨bs, r1⟩ := Dp.reads I d y u hy ry
  obtain ⟨a, rfl⟩ : ∃ a, x = .ref a := by cases hl; exact ⟨_, rfl⟩
  cases rx
  obtain ⟨vs, il, hsz, as, rs⟩ := seq_reads I hl
  exact SeqAt.count_list_data il rs r1 sl sd (pl_depthR hz hu) ⟨.int _, H, I.tok _, ⟨_, rfl⟩, q⟩
theorem mt_ctT (hu : X.A.units + 64 < cLine) : MtR X "tuple.count" (rCtM (fun x ds H => Dp X.K H x (.tuple ds)) X.K) := by
  intro pins s σ H x xs v us Q I rx rxs h
  obtain ⟨y, d, ds, rfl, hl, hy, sl, sd, hz, q⟩ := h
  obtain ⟨u, rfl, ry⟩ := vals1 rxs
  obtain ⟨bs, r1⟩ := Dp.reads I d y u hy ry
  obtain ⟨a, rfl⟩ : ∃ a, x = .ref a := by cases hl; exact ⟨_, rfl⟩
  cases rx
  obtain ⟨vs, il, hsz, as, rs⟩ := seq_readsT I hl
  exact SeqAt.count_tuple_data il rs r1 sl sd (pl_depthR hz hu) ⟨.int _, H, I.tok _, ⟨_, rfl⟩, q⟩

/-! ### repr -/
def rRepr (K : PySem.W.Frag) : List V → Hp → VK → Prop := fun xs H Q => ∃ x d, xs = [x] ∧ Dp K H x d ∧ d.hasDict = false ∧ d.showable = true ∧ d.depth ≤ 60 ∧ d.shown.length ≤ 1000000 ∧ Q (.str d.shown) H
theorem call_reprD (hu : X.A.units + 64 < cLine) (hg : X.A.guards = some []) : CallR X (.builtin "repr") (rRepr X.K) := by
  intro pins s σ H xs us Q I r h
  obtain ⟨x, d, rfl, hd, hnd, hs, hz, hl, q⟩ := h
  obtain ⟨u, rfl, rx⟩ := vals1 r
  have hsz : d.shown.length ≤ sizeLine := by rw [sizeLine_eq]; omega
  obtain ⟨as, rd⟩ := Dp.reads I d x u hd rx
  cases hd with
  | non => cases rx; exact P.repr_of_none ⟨.str _, H, I.tok _, ⟨_, rfl⟩, by simpa only [PyData.shown] using q⟩
  | bl b => cases rx; exact P.repr_of_bool ⟨.str _, H, I.tok _, ⟨_, rfl⟩, by simpa only [PyData.shown] using q⟩
  | int i =>
    obtain ⟨t, rfl⟩ := rx
    simp only [PyData.showable, decide_eq_true_eq] at hs
    exact P.repr_of_int hs ⟨.str _, H, I.tok _, ⟨_, rfl⟩, by simpa only [PyData.shown] using q⟩
  | str z =>
    obtain ⟨t, rfl⟩ := rx
    simp only [PyData.shown] at hsz
    exact P.repr_of_str ⟨.str _, H, I.tok _, ⟨_, rfl⟩, by simpa only [PyData.shown] using q⟩ hsz
  | lst _ _ =>
    cases rx
    exact repr_of_reads' rd hs (fun e => by rw [hnd] at e; cases e) hg (by omega) (fun _ _ e => e) (fun h' u tk hk => ⟨.str _, H, I.kept hk, ⟨_, rfl⟩, q⟩) hsz
  | tup _ _ =>
    cases rx
    exact repr_of_reads' rd hs (fun e => by rw [hnd] at e; cases e) hg (by omega) (fun _ _ e => e) (fun h' u tk hk => ⟨.str _, H, I.kept hk, ⟨_, rfl⟩, q⟩) hsz

/-! ### range objects -/
def rRange : List V → Hp → VK → Prop := fun xs H Q => ∃ lo hi : Int, (xs = [.int hi] ∧ lo = 0 ∨ xs = [.int lo, .int hi]) ∧ ∀ p, H p = none → Q (.ref p) (upd H p (.rng lo hi))
theorem call_range : CallR X (.type "range") rRange := by
  intro pins s σ H xs us Q I r h
  obtain ⟨lo, hi, e, q⟩ := h
  have fin : ∀ (t u v : Tok) (tk : Nat), EP X pins σ Q (.ref s.heap.objs.size) { s with heap := s.heap.push { cls := .type "range", data := .fields #[.int lo t, .int hi u, .int 1 v] }, toks := tk } := fun t u v tk =>
    ⟨.ref _, _, I.laid (o := .rng lo hi) (fun b o e => Heap.get?_push_of_some _ e) (Nat.le_refl _) ⟨t, u, v, Heap.get?_push_size _ rfl⟩, rfl, q _ (I.hok.fresh (Nat.le_refl _))⟩
  rcases e with ⟨rfl, rfl⟩ | rfl
  · obtain ⟨u, rfl, t, rfl⟩ := vals1 r
    exact call_range_1 (fin _ _ _ _)
  · obtain ⟨u1, u2, rfl, ⟨t, rfl⟩, t', rfl⟩ := vals2 r
    exact call_range_2 (fin _ _ _ _)
def rOfRg (f : List V → HO) : List V → Hp → VK → Prop := fun xs H Q => ∃ a lo hi, xs = [.ref a] ∧ H a = some (.rng lo hi) ∧ RgOk lo hi ∧ ∀ q, H q = none → Q (.ref q) (upd H q (f (rgV lo hi)))
theorem call_list_rg (hc : X.calm = true) : CallR X (.type "list") (rOfRg .lst) := by
  intro pins s σ H xs us Q I r h
  obtain ⟨a, lo, hi, rfl, ha, ⟨b1, b2, b3, b4, b5⟩, q⟩ := h
  obtain ⟨u, rfl, rx⟩ := vals1 r
  cases rx
  obtain ⟨t, u, v, e⟩ := (show ObjOk X.prog X.w H s.heap a (.rng lo hi) from I.hok a _ ha)
  refine call_list_range (n := (hi - lo).toNat) (I.ok.hd hc) (show IsRange s.heap a lo hi 1 t u v from e) (small_one b1 b2 b3 b4) (rangeSize_nat lo hi) b5 fun h' tk acc c' hk e' hi' => ?_
  refine ⟨.ref s.heap.objs.size, upd H s.heap.objs.size (.lst (rgV lo hi)), I.laid hk (Nat.le_refl _) (show ObjOk X.prog X.w _ _ _ (.lst (rgV lo hi)) from ⟨?_, acc.toList, c', vals_rg hi', ?_⟩), rfl, q _ (I.hok.fresh (Nat.le_refl _))⟩
  · rw [rgV_length, sizeLine_eq]; omega
  · rw [Array.toArray_toList]; exact e'
theorem CallR.or {f : Value} {r r' : List V → Hp → VK → Prop} (h : CallR X f r) (h' : CallR X f r') : CallR X f (fun xs H Q => r xs H Q ∨ r' xs H Q) := by
  intro pins s σ H xs us Q I rx q
  rcases q with q | q
  · exact h pins s σ H xs us Q I rx q
  · exact h' pins s σ H xs us Q I rx q
end
end Ev
/-! from E3c.lean -/
set_option maxRecDepth 100000
set_option maxHeartbeats 4000000
/-! Ev, part 3c: comparisons, subscripts, slices, calls of built-ins by values are right. -/
namespace Ev
open PySem PySem.Spec PyProof.Rows L2

section
variable {S : Type} {K : PySem.W.Frag} {T : Nat → Option Addr} {W : Wd S} {P G H : Hp} {Γ : List Sl} {s : S} {σ : L2.St} {Q : VK}
mutual
theorem flat_plain : ∀ d : D, d.flat = true → d.toP.plain = true
  | .non, _ => by rw [D.toP]; rfl
  | .bl _, _ => by rw [D.toP]; rfl
  | .int _, _ => by rw [D.toP]; rfl
  | .str _, _ => by rw [D.toP]; rfl
  | .tup xs, h => by
    rw [D.flat] at h
    rw [D.toP, PyData.plain]; exact flats_plain xs h
  | .lst xs, h => by
    rw [D.flat] at h
    rw [D.toP, PyData.plain]; exact flats_plain xs h
  | .rng _ _, h => by rw [D.flat] at h; cases h
  | .fn _, h => by rw [D.flat] at h; cases h
  | .ref _, h => by rw [D.flat] at h; cases h
  | .scr _, h => by rw [D.flat] at h; cases h
theorem flats_plain : ∀ ds : List D, flats ds = true → PyData.plainAll (toPs ds) = true
  | [], _ => by rw [toPs]; rfl
  | d :: ds, h => by
    rw [flats, Bool.and_eq_true] at h
    rw [toPs, PyData.plainAll, Bool.and_eq_true]
    exact ⟨flat_plain d h.1, flats_plain ds h.2⟩
end
mutual
theorem flat_dict : ∀ d : D, d.flat = true → d.toP.hasDict = false
  | .non, _ => by rw [D.toP]; rfl
  | .bl _, _ => by rw [D.toP]; rfl
  | .int _, _ => by rw [D.toP]; rfl
  | .str _, _ => by rw [D.toP]; rfl
  | .tup xs, h => by
    rw [D.flat] at h
    rw [D.toP, PyData.hasDict]; exact flats_dict xs h
  | .lst xs, h => by
    rw [D.flat] at h
    rw [D.toP, PyData.hasDict]; exact flats_dict xs h
  | .rng _ _, h => by rw [D.flat] at h; cases h
  | .fn _, h => by rw [D.flat] at h; cases h
  | .ref _, h => by rw [D.flat] at h; cases h
  | .scr _, h => by rw [D.flat] at h; cases h
theorem flats_dict : ∀ ds : List D, flats ds = true → PyData.hasDictAll (toPs ds) = false
  | [], _ => by rw [toPs]; rfl
  | d :: ds, h => by
    rw [flats, Bool.and_eq_true] at h
    rw [toPs, PyData.hasDictAll, Bool.or_eq_false_iff]
    exact ⟨flat_dict d h.1, flats_dict ds h.2⟩
end
theorem D.ok_flat {d : D} (h : d.ok = true) : d.flat = true ∧ d.toP.depth ≤ 60 := by
  unfold D.ok at h
  rw [Bool.and_eq_true, decide_eq_true_eq] at h
  exact h
theorem toPs_any (e : PyData) : ∀ ds : List D, ((toPs ds).any fun z => PyData.eqv z e) = ds.any fun z => PyData.eqv z.toP e
  | [] => by rw [toPs]; rfl
  | d :: ds => by rw [toPs, List.any_cons, List.any_cons, toPs_any e ds]
theorem toPs_count (e : PyData) : ∀ ds : List D, ((toPs ds).countP fun z => PyData.eqv z e) = ds.countP fun z => PyData.eqv z.toP e
  | [] => by rw [toPs]; rfl
  | d :: ds => by rw [toPs, List.countP_cons, List.countP_cons, toPs_count e ds]
theorem toPs_map : ∀ ds : List D, toPs ds = ds.map D.toP
  | [] => by rw [toPs]; rfl
  | d :: ds => by rw [toPs, List.map_cons, toPs_map ds]

/-! ### comparisons -/
def cmOf : Cm → CmpOp
  | .eq => .Eq | .ne => .NotEq | .lt => .Lt | .le => .LtE | .gt => .Gt | .ge => .GtE | .isv => .Is | .isnt => .IsNot | .mem => .In | .nmem => .NotIn
def rCmp (K : PySem.W.Frag) : Cm → R2
  | .eq => rEqP K
  | .ne => rNeP K
  | .lt => rI0 fun i j => .bl (decide (i < j))
  | .le => rI0 fun i j => .bl (decide (i ≤ j))
  | .gt => rI0 fun i j => .bl (decide (j < i))
  | .ge => rI0 fun i j => .bl (decide (j ≤ i))
  | .isv => fun x y H Q => (y = .non ∧ Q (.bl (decide (x = .non))) H) ∨ (∃ a b, x = .bl a ∧ y = .bl b ∧ Q (.bl (decide (a = b))) H)
  | .isnt => fun x y H Q => (y = .non ∧ Q (.bl (!decide (x = .non))) H) ∨ (∃ a b, x = .bl a ∧ y = .bl b ∧ Q (.bl (!decide (a = b))) H)
  | .mem => rMem K false
  | .nmem => rMem K true
theorem rCmp_ok {X : Cx} (hu : X.A.units + 64 < cLine) : ∀ o : Cm, OpR X (compareOp (cmOf o)) (rCmp X.K o)
  | .eq => op_eqP hu
  | .ne => op_neP hu
  | .lt => op_lt
  | .le => op_le
  | .gt => op_gt
  | .ge => op_ge
  | .isv => op_isN.or op_is_bl
  | .isnt => op_notN.or op_isnot_bl
  | .mem => op_mem hu
  | .nmem => op_nmem hu
theorem DO.is_non {x : D} {v : V} (h : DO K T G H v x) : decide (v = .non) = (match x with | .non => true | _ => false) := by
  rcases h with h | ⟨a, rfl, h⟩
  · cases h <;> rfl
  · cases x with
    | lst ds => rfl
    | _ => exact h.elim
theorem seqs_of (sub : Sub G H) {v : V} {d : D} {ds : List D} (e : d = .tup ds ∨ d = .lst ds) (h : DO K T G H v d) (f : d.flat = true) : Seqs K H v (toPs ds) := by
  rcases e with rfl | rfl
  · have q := h.dp sub f
    rw [D.toP] at q; exact .inr q
  · have q := h.dp sub f
    rw [D.toP] at q; exact .inl q
theorem flats_of {d : D} {ds : List D} (e : d = .tup ds ∨ d = .lst ds) (f : d.flat = true) : PyData.plainAll (toPs ds) = true := by
  rcases e with rfl | rfl <;> (rw [D.flat] at f; exact flats_plain ds f)
theorem cmp_ok {o : Cm} {x y : D} {v w : V} {E0 : Xn → S → Prop} {Qr : D → S → Prop} (F : Fr K T W P G Γ s σ H) (hx : DO K T G H v x) (hy : DO K T G H w y) (h : (opCmp o x y).run s Qr E0) (hq : ∀ r, Qr r s → Kont K T W P G Γ s σ Q (.dat r)) : rCmp K o v w H Q := by
  have sub := F.wf.gh
  cases o with
  | eq =>
    obtain ⟨⟨h1, h2⟩, h⟩ := h
    exact ⟨x.toP, y.toP, hx.dp sub (D.ok_flat h1).1, hy.dp sub (D.ok_flat h2).1, flat_plain _ (D.ok_flat h1).1, flat_plain _ (D.ok_flat h2).1, (D.ok_flat h1).2, (hq _ h).dat F (.bl _)⟩
  | ne =>
    obtain ⟨⟨h1, h2⟩, h⟩ := h
    exact ⟨x.toP, y.toP, hx.dp sub (D.ok_flat h1).1, hy.dp sub (D.ok_flat h2).1, flat_plain _ (D.ok_flat h1).1, flat_plain _ (D.ok_flat h2).1, (D.ok_flat h1).2, (hq _ h).dat F (.bl _)⟩
  | lt =>
    cases x with
    | int i =>
      cases y with
      | int j => exact ⟨i, j, hx.int, hy.int, (hq _ h).dat F (.bl _)⟩
      | _ => exact h.elim
    | _ => exact h.elim
  | le =>
    cases x with
    | int i =>
      cases y with
      | int j => exact ⟨i, j, hx.int, hy.int, (hq _ h).dat F (.bl _)⟩
      | _ => exact h.elim
    | _ => exact h.elim
  | gt =>
    cases x with
    | int i =>
      cases y with
      | int j => exact ⟨i, j, hx.int, hy.int, (hq _ h).dat F (.bl _)⟩
      | _ => exact h.elim
    | _ => exact h.elim
  | ge =>
    cases x with
    | int i =>
      cases y with
      | int j => exact ⟨i, j, hx.int, hy.int, (hq _ h).dat F (.bl _)⟩
      | _ => exact h.elim
    | _ => exact h.elim
  | isv =>
    cases y with
    | non =>
      refine .inl ⟨hy.non, ?_⟩
      rw [hx.is_non]
      cases x <;> exact (hq _ h).dat F (.bl _)
    | bl b =>
      cases x with
      | bl a => exact .inr ⟨a, b, hx.bl, hy.bl, (hq _ h).dat F (.bl _)⟩
      | _ => exact h.elim
    | _ => cases x <;> exact h.elim
  | isnt =>
    cases y with
    | non =>
      refine .inl ⟨hy.non, ?_⟩
      rw [hx.is_non]
      cases x <;> exact (hq _ h).dat F (.bl _)
    | bl b =>
      cases x with
      | bl a => exact .inr ⟨a, b, hx.bl, hy.bl, (hq _ h).dat F (.bl _)⟩
      | _ => exact h.elim
    | _ => cases x <;> exact h.elim
  | mem =>
    cases y with
    | tup ds =>
      obtain ⟨⟨h1, h2⟩, h⟩ := h
      refine ⟨x.toP, toPs ds, hx.dp sub (D.ok_flat h1).1, seqs_of sub (.inl rfl) hy (D.ok_flat h2).1, flat_plain _ (D.ok_flat h1).1, flats_of (.inl rfl) (D.ok_flat h2).1, (D.ok_flat h1).2, ?_⟩
      rw [if_neg (by decide), toPs_any]
      exact (hq _ h).dat F (.bl _)
    | lst ds =>
      obtain ⟨⟨h1, h2⟩, h⟩ := h
      refine ⟨x.toP, toPs ds, hx.dp sub (D.ok_flat h1).1, seqs_of sub (.inr rfl) hy (D.ok_flat h2).1, flat_plain _ (D.ok_flat h1).1, flats_of (.inr rfl) (D.ok_flat h2).1, (D.ok_flat h1).2, ?_⟩
      rw [if_neg (by decide), toPs_any]
      exact (hq _ h).dat F (.bl _)
    | _ => exact h.elim
  | nmem =>
    cases y with
    | tup ds =>
      obtain ⟨⟨h1, h2⟩, h⟩ := h
      refine ⟨x.toP, toPs ds, hx.dp sub (D.ok_flat h1).1, seqs_of sub (.inl rfl) hy (D.ok_flat h2).1, flat_plain _ (D.ok_flat h1).1, flats_of (.inl rfl) (D.ok_flat h2).1, (D.ok_flat h1).2, ?_⟩
      rw [if_pos rfl, toPs_any]
      exact (hq _ h).dat F (.bl _)
    | lst ds =>
      obtain ⟨⟨h1, h2⟩, h⟩ := h
      refine ⟨x.toP, toPs ds, hx.dp sub (D.ok_flat h1).1, seqs_of sub (.inr rfl) hy (D.ok_flat h2).1, flat_plain _ (D.ok_flat h1).1, flats_of (.inr rfl) (D.ok_flat h2).1, (D.ok_flat h1).2, ?_⟩
      rw [if_pos rfl, toPs_any]
      exact (hq _ h).dat F (.bl _)
    | _ => exact h.elim

/-! ### subscripts -/
def rIdx (K : PySem.W.Frag) : R2 := fun x y H Q => rIxL K x y H Q ∨ rIxT K x y H Q
theorem rIdx_ok {X : Cx} : IxR X (rIdx X.K) := ix_list.or ix_tup
theorem DRs.atI {xs : List V} {ds : List D} {i : Int} {d : D} (r : DRs K T G xs ds) (h : L2.atI ds i = some d) : ∃ v, L2.atI xs i = some v ∧ DR K T G v d := by
  have hl := r.length
  unfold L2.atI at h ⊢
  rw [hl]
  cases e : ixN ds.length i with
  | none => rw [e] at h; cases h
  | some j => rw [e] at h; exact r.get h
theorem opt_pure {α : Type} {o : Option α} {s : S} {Q : α → S → Prop} {E : Xn → S → Prop} (h : (M.opt o).run s Q E) : ∃ a, o = some a ∧ Q a s := by
  cases o with
  | none => exact h.elim
  | some a => exact ⟨a, rfl, h⟩
theorem idx_ok {x y : D} {v w : V} {E0 : Xn → S → Prop} {Qr : D → S → Prop} (F : Fr K T W P G Γ s σ H) (hx : DO K T G H v x) (hy : DO K T G H w y) (h : (opIdx x y).run s Qr E0) (hq : ∀ r, Qr r s → Kont K T W P G Γ s σ Q (.dat r)) : rIdx K v w H Q := by
  have sub := F.wf.gh
  cases x with
  | tup ds =>
    cases y with
    | int i =>
      obtain ⟨d, e, h⟩ := opt_pure h
      obtain ⟨a, xs, rfl, ha, r⟩ := hx.tup sub
      obtain ⟨u, e', hu⟩ := r.atI e
      exact .inr ⟨a, xs, i, u, rfl, hy.int, ha.sq, e', (hq _ h).dat F hu⟩
    | _ => exact h.elim
  | lst ds =>
    cases y with
    | int i =>
      obtain ⟨d, e, h⟩ := opt_pure h
      obtain ⟨a, xs, rfl, ha, r⟩ := hx.lst sub
      obtain ⟨u, e', hu⟩ := r.atI e
      exact .inl ⟨a, xs, i, u, rfl, hy.int, SqL.of ha, e', (hq _ h).dat F hu⟩
    | _ => exact h.elim
  | _ => exact h.elim

/-! ### slices -/
def rSlc (K : PySem.W.Frag) : V → Option Int → Option Int → Hp → VK → Prop := fun x lo hi H Q => rSlF K x lo hi H Q ∨ rSlL K x lo hi H Q
theorem rSlc_ok {X : Cx} : SlR X (rSlc X.K) := sl_tupF.or sl_list
theorem DRs.cut {xs : List V} {ds : List D} (r : DRs K T G xs ds) (lo hi : Option Int) : DRs K T G (cutV xs lo hi) (Ev.cut ds lo hi) := by
  unfold cutV Ev.cut
  rw [r.length]
  exact (r.drop _).take _
theorem cut_whole {ds : List D} {lo hi : Option Int} (h : HT.sIx ds.length 0 lo = 0 ∧ HT.sIx ds.length ds.length hi = ds.length) : Ev.cut ds lo hi = ds := by
  unfold Ev.cut
  rw [h.1, h.2, List.drop_zero, Nat.sub_zero, List.take_length]
theorem slc_ok {x : D} {lo hi : Option Int} {v : V} {E0 : Xn → S → Prop} {Qr : Rv → S → Prop} (F : Fr K T W P G Γ s σ H) (hx : DO K T G H v x) (h : (opSlc x lo hi).run s Qr E0) (hq : ∀ r, Qr r s → Kont K T W P G Γ s σ Q r) : rSlc K v lo hi H Q := by
  have sub := F.wf.gh
  cases x with
  | tup ds =>
    obtain ⟨a, xs, rfl, ha, r⟩ := hx.tup sub
    have k := hq _ h
    refine .inl ⟨a, xs, rfl, ha.sq, fun e => ?_, k.newT F (r.cut lo hi)⟩
    rw [r.length] at e
    rw [cut_whole e] at k
    rcases hx with hx | ⟨_, _, z⟩
    · exact k.dat F hx
    · exact z.elim
  | lst ds =>
    obtain ⟨a, xs, rfl, ha, r⟩ := hx.lst sub
    exact .inr ⟨a, xs, rfl, SqL.of ha, (hq _ h).newL F (r.cut lo hi)⟩
  | scr ds =>
    obtain ⟨a, xs, rfl, ha, r⟩ := hx.scr sub
    exact .inr ⟨a, xs, rfl, ha, (hq _ h).newL F (r.cut lo hi)⟩
  | _ => exact h.elim

/-! ### built-ins -/
def argsOk (K : PySem.W.Frag) (T : Nat → Option Addr) (G H : Hp) : List V → List D → Prop
  | [], [] => True
  | v :: vs, d :: ds => DO K T G H v d ∧ argsOk K T G H vs ds
  | _, _ => False
theorem argsOk.one {vs : List V} {d : D} (h : argsOk K T G H vs [d]) : ∃ v, vs = [v] ∧ DO K T G H v d := by
  match vs, h with
  | [v], h => exact ⟨v, rfl, h.1⟩
theorem argsOk.two {vs : List V} {d e : D} (h : argsOk K T G H vs [d, e]) : ∃ v w, vs = [v, w] ∧ DO K T G H v d ∧ DO K T G H w e := by
  match vs, h with
  | [v, w], h => exact ⟨v, w, rfl, h.1, h.2.1⟩
theorem DRs.bools : ∀ {xs : List V} {ds : List D} {bs : List Bool}, DRs K T G xs ds → boolsOf ds = some bs → xs = bs.map V.bl
  | _, _, _, .nil, e => by cases e; rfl
  | v :: vs, d :: ds, bs, .cons h r, e => by
    cases d with
    | bl b =>
      unfold boolsOf at e
      cases q : boolsOf ds with
      | none => rw [q] at e; cases e
      | some bs' =>
        rw [q] at e
        cases e
        cases h
        rw [DRs.bools r q]; rfl
    | _ => cases e
def rgOk (lo hi : Int) : Prop := -1000000 ≤ lo ∧ lo ≤ 1000000 ∧ -1000000 ≤ hi ∧ hi ≤ 1000000
theorem rg_of {lo hi : Int} (h : -1000000 ≤ lo ∧ lo ≤ 1000000 ∧ -1000000 ≤ hi ∧ hi ≤ 1000000) : RgOk lo hi := by
  refine ⟨?_, ?_, ?_, ?_, ?_⟩ <;> first | omega | (rw [sizeLine_eq]; omega)
theorem DRs.rg (lo hi : Int) : DRs K T G (rgV lo hi) (rngL lo hi) := by
  have h : ∀ l : List Nat, DRs K T G (l.map fun (k : Nat) => V.int (lo + (k : Int))) (l.map fun (k : Nat) => D.int (lo + (k : Int))) := fun l => by
    induction l with
    | nil => exact .nil
    | cons k l ih => exact .cons (.int _) ih
  exact h _
def rBi (K : PySem.W.Frag) : Bi → List V → Hp → VK → Prop
  | .len => fun xs H Q => ∃ p ys, xs = [.ref p] ∧ (SqL K H p ys ∨ SqT K H p ys) ∧ Q (.int ys.length) H
  | .int1 => fun xs H Q => (∃ i, xs = [.int i] ∧ Q (.int i) H) ∨ ∃ k, xs = [.bl k] ∧ Q (.int (if k then 1 else 0)) H
  | .tuple => fun xs H Q => rTupleF K xs H Q ∨ (∃ a lo hi, xs = [.ref a] ∧ H a = some (.rng lo hi) ∧ RgOk lo hi ∧ NewF H Q (rgV lo hi))
  | .list => fun xs H Q => (∃ p ys, xs = [.ref p] ∧ (SqL K H p ys ∨ SqT K H p ys) ∧ ∀ l, H l = none → Q (.ref l) (upd H l (.lst ys))) ∨ rOfRg .lst xs H Q
  | .range1 => rRange
  | .range2 => rRange
  | .max2 => fun xs H Q => ∃ i j, xs = [.int i, .int j] ∧ Q (.int (if j > i then j else i)) H
  | .min2 => fun xs H Q => ∃ i j, xs = [.int i, .int j] ∧ Q (.int (if j < i then j else i)) H
  | .abs => fun xs H Q => ∃ i, xs = [.int i] ∧ Q (.int (if i < 0 then -i else i)) H
  | .repr => rRepr K
  | .all => rAll K
  | .any => rAny K
  | _ => fun _ _ _ => False
def biOf : Bi → Value
  | .len => .builtin "len" | .int1 => .type "int" | .tuple => .type "tuple" | .list => .type "list" | .range1 => .type "range" | .range2 => .type "range" | .max2 => .builtin "max" | .min2 => .builtin "min"
  | .abs => .builtin "abs" | .repr => .builtin "repr" | .all => .builtin "all" | .any => .builtin "any" | _ => .none
def Bi.std : Bi → Bool
  | .len | .int1 | .tuple | .list | .range1 | .range2 | .max2 | .min2 | .abs | .repr | .all | .any => true
  | _ => false
theorem rBi_ok {X : Cx} (hu : X.A.units + 64 < cLine) (hg : X.A.guards = some []) (hc : X.calm = true) : ∀ b : Bi, b.std = true → CallR X (biOf b) (rBi X.K b)
  | .len, _ => call_len_seq
  | .int1, _ => call_int1
  | .tuple, _ => call_tupleF.or (call_tupRgF hc)
  | .list, _ => call_list_of.or (call_list_rg hc)
  | .range1, _ => call_range
  | .range2, _ => call_range
  | .max2, _ => call_max2 hc
  | .min2, _ => call_min2 hc
  | .abs, _ => call_abs
  | .repr, _ => call_reprD hu hg
  | .all, _ => cr_all hc
  | .any, _ => cr_any hc
theorem bi_ok {b : Bi} {xs : List D} {vs : List V} {E0 : Xn → S → Prop} {Qr : Rv → S → Prop} (F : Fr K T W P G Γ s σ H) (hx : argsOk K T G H vs xs) (hb : b.std = true) (h : (opBi b xs).run s Qr E0) (hq : ∀ r, Qr r s → Kont K T W P G Γ s σ Q r) : rBi K b vs H Q := by
  have sub := F.wf.gh
  cases b with
  | len =>
    match xs, h with
    | [.tup ds], h =>
      obtain ⟨v, rfl, hv⟩ := hx.one
      obtain ⟨a, ys, rfl, ha, r⟩ := hv.tup sub
      refine ⟨a, ys, rfl, .inr ha.sq, ?_⟩
      rw [r.length]
      exact (hq _ h.2).dat F (.int _)
    | [.lst ds], h =>
      obtain ⟨v, rfl, hv⟩ := hx.one
      obtain ⟨a, ys, rfl, ha, r⟩ := hv.lst sub
      refine ⟨a, ys, rfl, .inl (SqL.of ha), ?_⟩
      rw [r.length]
      exact (hq _ h.2).dat F (.int _)
  | int1 =>
    match xs, h with
    | [.int i], h =>
      obtain ⟨v, rfl, hv⟩ := hx.one
      exact .inl ⟨i, by rw [hv.int], (hq _ h).dat F (.int _)⟩
    | [.bl i], h =>
      obtain ⟨v, rfl, hv⟩ := hx.one
      exact .inr ⟨i, by rw [hv.bl], (hq _ h).dat F (.int _)⟩
  | tuple =>
    match xs, h with
    | [.tup ds], h =>
      obtain ⟨v, rfl, hv⟩ := hx.one
      obtain ⟨a, ys, rfl, ha, r⟩ := hv.tup sub
      refine .inl ⟨a, ys, rfl, .inr ⟨ha.sq, ?_⟩⟩
      rcases hv with hv | ⟨_, _, z⟩
      · exact (hq _ h).dat F hv
      · exact z.elim
    | [.lst ds], h =>
      obtain ⟨v, rfl, hv⟩ := hx.one
      obtain ⟨a, ys, rfl, ha, r⟩ := hv.lst sub
      exact .inl ⟨a, ys, rfl, .inl ⟨SqL.of ha, (hq _ h).newT F r⟩⟩
    | [.rng lo hi], h =>
      obtain ⟨v, rfl, hv⟩ := hx.one
      obtain ⟨a, rfl, ha⟩ := hv.rng sub
      exact .inr ⟨a, lo, hi, rfl, ha, rg_of h.1, (hq _ h.2).newT F (DRs.rg lo hi)⟩
  | list =>
    match xs, h with
    | [.tup ds], h =>
      obtain ⟨v, rfl, hv⟩ := hx.one
      obtain ⟨a, ys, rfl, ha, r⟩ := hv.tup sub
      exact .inl ⟨a, ys, rfl, .inr ha.sq, (hq _ h).newL F r⟩
    | [.lst ds], h =>
      obtain ⟨v, rfl, hv⟩ := hx.one
      obtain ⟨a, ys, rfl, ha, r⟩ := hv.lst sub
      exact .inl ⟨a, ys, rfl, .inl (SqL.of ha), (hq _ h).newL F r⟩
    | [.rng lo hi], h =>
      obtain ⟨v, rfl, hv⟩ := hx.one
      obtain ⟨a, rfl, ha⟩ := hv.rng sub
      exact .inr ⟨a, lo, hi, rfl, ha, rg_of h.1, (hq _ h.2).newL F (DRs.rg lo hi)⟩
  | range1 =>
    match xs, h with
    | [.int j], h =>
      obtain ⟨v, rfl, hv⟩ := hx.one
      exact ⟨0, j, .inl ⟨by rw [hv.int], rfl⟩, (hq _ h.2).newR F⟩
  | range2 =>
    match xs, h with
    | [.int i, .int j], h =>
      obtain ⟨v, w, rfl, hv, hw⟩ := hx.two
      exact ⟨i, j, .inr (by rw [hv.int, hw.int]), (hq _ h.2).newR F⟩
  | max2 =>
    match xs, h with
    | [.int i, .int j], h =>
      obtain ⟨v, w, rfl, hv, hw⟩ := hx.two
      exact ⟨i, j, by rw [hv.int, hw.int], (hq _ h).dat F (.int _)⟩
  | min2 =>
    match xs, h with
    | [.int i, .int j], h =>
      obtain ⟨v, w, rfl, hv, hw⟩ := hx.two
      exact ⟨i, j, by rw [hv.int, hw.int], (hq _ h).dat F (.int _)⟩
  | abs =>
    match xs, h with
    | [.int i], h =>
      obtain ⟨v, rfl, hv⟩ := hx.one
      exact ⟨i, by rw [hv.int], (hq _ h).dat F (.int _)⟩
  | repr =>
    match xs, h with
    | [d], h =>
      obtain ⟨v, rfl, hv⟩ := hx.one
      obtain ⟨⟨h1, h2, h3, h4⟩, h⟩ := h
      exact ⟨v, d.toP, rfl, hv.dp sub h1, flat_dict d h1, h2, h3, h4, (hq _ h).dat F (.str _)⟩
  | all =>
    match xs, h with
    | [.lst ds], h =>
      obtain ⟨v, rfl, hv⟩ := hx.one
      obtain ⟨a, ys, rfl, ha, r⟩ := hv.lst sub
      obtain ⟨bs, e, h⟩ := opt_pure (Q := fun (bs : List Bool) s => Qr (.dat (.bl (bs.all id))) s) (E := E0) (show (M.opt (boolsOf ds)).run s _ _ from h)
      exact ⟨a, bs, rfl, by rw [← r.bools e]; exact SqL.of ha, (hq _ h).dat F (.bl _)⟩
  | any =>
    match xs, h with
    | [.lst ds], h =>
      obtain ⟨v, rfl, hv⟩ := hx.one
      obtain ⟨a, ys, rfl, ha, r⟩ := hv.lst sub
      obtain ⟨bs, e, h⟩ := opt_pure (Q := fun (bs : List Bool) s => Qr (.dat (.bl (bs.any id))) s) (E := E0) (show (M.opt (boolsOf ds)).run s _ _ from h)
      exact ⟨a, bs, rfl, by rw [← r.bools e]; exact SqL.of ha, (hq _ h).dat F (.bl _)⟩
  | _ => cases hb
end
end Ev
/-! from E4.lean -/
set_option maxRecDepth 100000
set_option maxHeartbeats 4000000
/-! Ev, part 4: expressions of the text and what they compute. -/
namespace Ev
open PySem PySem.Spec PyProof.Rows L2

section
variable {S : Type}
abbrev noX : Xn → S → Prop := fun _ _ => False
theorem M.weak {α : Type} {m : M S α} {s : S} {Q Q' : α → S → Prop} {E : Xn → S → Prop} (h : m.run s Q E) (f : ∀ a t, Q a t → Q' a t) : m.run s Q' E := m.mono _ _ _ _ _ f (fun _ _ x => x) h
theorem opt_run {α β : Type} {o : Option α} {f : α → M S β} {s : S} {Q : β → S → Prop} {E : Xn → S → Prop} (h : ((M.opt o).bind f).run s Q E) : ∃ a, o = some a ∧ (f a).run s Q E := opt_pure (Q := fun a t => (f a).run t Q E) h
theorem isI_run {β : Type} {x : D} {f : Int → M S β} {s : S} {Q : β → S → Prop} {E : Xn → S → Prop} (h : ((isI x).bind f).run s Q E) : ∃ i, x = .int i ∧ (f i).run s Q E := by
  cases x with
  | int i => exact ⟨i, rfl, h⟩
  | _ => exact False.elim h
theorem isB_run {β : Type} {x : D} {f : Bool → M S β} {s : S} {Q : β → S → Prop} {E : Xn → S → Prop} (h : ((isB x).bind f).run s Q E) : ∃ i, x = .bl i ∧ (f i).run s Q E := by
  cases x with
  | bl i => exact ⟨i, rfl, h⟩
  | _ => exact False.elim h

variable (K : PySem.W.Frag) (T : Nat → Option Addr) (W : Wd S)
/-- an operand that waits for its use -/
def OP (G : Hp) (σ : L2.St) (v : V) : Rv → Prop
  | .dat d => DR K T G v d
  | .own _ => False
  | .slot i => σ[i]? = some (some v)
def OPs (G : Hp) (σ : L2.St) : List V → List Rv → Prop
  | [], [] => True
  | v :: vs, r :: rs => OP K T G σ v r ∧ OPs G σ vs rs
  | _, _ => False
/-- an expression, an argument list, a slice's part, a test as the judgements want them -/
def xE (m : TEv S) : TE := fun σ H Q => ∃ P G Γ s, Fr K T W P G Γ s σ H ∧ (m Γ).run s (fun p s' => ∀ v G' H', Sub G G' → Fr K T W P G' p.2 s' σ H' → RR K T W P G' p.2 s' σ H' v p.1 → Q v H') noX
def xA (m : TEs S) : TA := fun σ H Q => ∃ P G Γ s, Fr K T W P G Γ s σ H ∧ (m Γ).run s (fun p s' => ∀ vs G' H', Sub G G' → Fr K T W P G' p.2 s' σ H' → OPs K T G' σ vs p.1 → Q vs H') noX
def xO (m : TOv S) : TO := fun σ H Q => ∃ P G Γ s, Fr K T W P G Γ s σ H ∧ (m Γ).run s (fun p s' => ∀ G' H', Sub G G' → Fr K T W P G' p.2 s' σ H' → Q p.1 H') noX
def xT (m : TTv S) : TT := fun σ H Q => ∃ P G Γ s, Fr K T W P G Γ s σ H ∧ (m Γ).run s (fun p s' => ∀ G' H', Sub G G' → Fr K T W P G' p.2 s' σ H' → Q p.1 H') noX
end

section
variable {S : Type} {K : PySem.W.Frag} {T : Nat → Option Addr} {W : Wd S} {P G G' H : Hp} {Γ : List Sl} {s : S} {σ : L2.St} {Q : VK} {m : TEv S}
theorem OP.mono (sub : Sub G G') {v : V} {r : Rv} (h : OP K T G σ v r) : OP K T G' σ v r := by
  cases r with
  | dat d => exact DR.mono sub h
  | own d => exact h.elim
  | slot i => exact h
theorem OPs.mono (sub : Sub G G') : ∀ {vs : List V} {rs : List Rv}, OPs K T G σ vs rs → OPs K T G' σ vs rs
  | [], [], _ => True.intro
  | _ :: _, _ :: _, h => ⟨h.1.mono sub, OPs.mono sub h.2⟩
theorem Fr.slot (F : Fr K T W P G Γ s σ H) {i : Nat} {v : V} (e : σ[i]? = some (some v)) : (∀ d, Γ[i]? = some (.dat d) → DR K T G v d) ∧ (∀ d, Γ[i]? = some (.own d) → ∃ a, v = .ref a ∧ OwnAt K T G H a d) := by
  refine ⟨fun d q => ?_, fun d q => ?_⟩
  · obtain ⟨w, h1, h2⟩ := F.dat i d q
    rw [e] at h1; cases h1; exact h2
  · obtain ⟨a, h1, h2, _⟩ := F.own i d q
    rw [e] at h1; cases h1; exact ⟨a, rfl, h2⟩
/-- .. at its use -/
theorem OP.val (F : Fr K T W P G Γ s σ H) {v : V} {d : D} : ∀ {r : Rv}, OP K T G σ v r → valO Γ r = some d → DO K T G H v d
  | .dat e, h, q => by cases q; exact .inl h
  | .slot i, h, q => by
    obtain ⟨f1, f2⟩ := F.slot h
    simp only [valO] at q
    cases e : Γ[i]? with
    | none => rw [e] at q; cases q
    | some sl =>
      rw [e] at q
      cases sl with
      | no => cases q
      | dat d' => cases q; exact .inl (f1 _ e)
      | own d' => cases q; exact .inr (f2 _ e)
theorem opd_opd : ∀ r : Rv, opd (opd r) = opd r
  | .dat _ => rfl
  | .own _ => rfl
  | .slot _ => rfl
theorem use_run {β : Type} {r : Rv} {v : V} {f : D → M S β} {Q : β → S → Prop} {E : Xn → S → Prop} (F : Fr K T W P G Γ s σ H) (o : OP K T G σ v (opd r)) (h : ((use Γ r).bind f).run s Q E) : ∃ d, DO K T G H v d ∧ (f d).run s Q E := by
  obtain ⟨d, e, h⟩ := opt_run h
  exact ⟨d, o.val F e, h⟩
/-- an operand is made frozen -/
theorem OP.frz (F : Fr K T W P G Γ s σ H) {v : V} {d : D} {Γ' : List Sl} : ∀ {r : Rv}, OP K T G σ v r → Ev.frz Γ r = some (d, Γ') → ∃ G', Sub G G' ∧ Fr K T W P G' Γ' s σ H ∧ DR K T G' v d
  | .dat e, h, q => by cases q; exact ⟨G, Sub.refl _, F, h⟩
  | .slot i, h, q => by
    obtain ⟨f1, f2⟩ := F.slot h
    simp only [Ev.frz] at q
    cases e : Γ[i]? with
    | none => rw [e] at q; cases q
    | some sl =>
      rw [e] at q
      cases sl with
      | no => cases q
      | dat d' => cases q; exact ⟨G, Sub.refl _, F, f1 _ e⟩
      | own d' =>
        cases q
        obtain ⟨a, o, h1, n, h2, F'⟩ := F.freezeSlot e
        obtain rfl : v = .ref a := by
          have : σ[i]? = some (some v) := h
          rw [h1] at this; cases this; rfl
        exact ⟨_, sub_upd n, F', h2⟩
theorem OPs.frz : ∀ {rs : List Rv} {vs : List V} {G : Hp} {Γ Γ' : List Sl} {ds : List D}, Fr K T W P G Γ s σ H → OPs K T G σ vs rs → frzs Γ rs = some (ds, Γ') → ∃ G', Sub G G' ∧ Fr K T W P G' Γ' s σ H ∧ DRs K T G' vs ds
  | [], [], G, _, _, _, F, _, q => by cases q; exact ⟨G, Sub.refl _, F, .nil⟩
  | r :: rs, v :: vs, G, Γ, Γ', ds, F, h, q => by
    unfold frzs at q
    split at q
    · rename_i d Γ1 e1
      split at q
      · rename_i ds' Γ2 e2
        cases q
        obtain ⟨G1, s1, F1, d1⟩ := h.1.frz F e1
        obtain ⟨G2, s2, F2, d2⟩ := OPs.frz F1 (h.2.mono s1) e2
        exact ⟨G2, s1.trans s2, F2, .cons (d1.mono s2) d2⟩
      · cases q
    · cases q
theorem OPs.vals (F : Fr K T W P G Γ s σ H) : ∀ {rs : List Rv} {vs : List V} {ds : List D}, OPs K T G σ vs rs → valOs Γ rs = some ds → argsOk K T G H vs ds
  | [], [], _, _, q => by cases q; exact True.intro
  | r :: rs, v :: vs, ds, h, q => by
    unfold valOs at q
    split at q
    · rename_i d ds' e1 e2
      cases q
      exact ⟨h.1.val F e1, OPs.vals F h.2 e2⟩
    · cases q
theorem opd_id {r : Rv} {v : V} : OP K T G σ v r → opd r = r := fun h => by
  cases r with
  | own _ => exact h.elim
  | _ => rfl
/-- the result waits as an operand -/
theorem xE.opd (F : Fr K T W P G Γ s σ H) (h : (m Γ).run s (fun p s' => ∀ v G' H', Sub G G' → Fr K T W P G' p.2 s' σ H' → OP K T G' σ v (Ev.opd p.1) → Q v H') noX) : xE K T W m σ H Q := by
  refine ⟨P, G, Γ, s, F, M.weak h fun p s' q v G' H' sub F' r => ?_⟩
  generalize e : p.1 = r0 at r q
  cases r with
  | dat h => exact q v G' H' sub F' h
  | @own a d h m off =>
    obtain ⟨o, h1, h2⟩ := h.frz m.g
    exact q _ _ H' (sub.trans (sub_upd m.g)) (F'.freeze m h1 off) h2
  | slot h1 h2 => exact q v G' H' sub F' h2
theorem xA.by (F : Fr K T W P G Γ s σ H) {m : TEs S} {Q : List V → Hp → Prop} (h : (m Γ).run s (fun p s' => ∀ vs G' H', Sub G G' → Fr K T W P G' p.2 s' σ H' → OPs K T G' σ vs p.1 → Q vs H') noX) : xA K T W m σ H Q := ⟨P, G, Γ, s, F, h⟩
theorem xO.by (F : Fr K T W P G Γ s σ H) {m : TOv S} {Q : Option Int → Hp → Prop} (h : (m Γ).run s (fun p s' => ∀ G' H', Sub G G' → Fr K T W P G' p.2 s' σ H' → Q p.1 H') noX) : xO K T W m σ H Q := ⟨P, G, Γ, s, F, h⟩
theorem xT.by (F : Fr K T W P G Γ s σ H) {m : TTv S} {Q : Bool → Hp → Prop} (h : (m Γ).run s (fun p s' => ∀ G' H', Sub G G' → Fr K T W P G' p.2 s' σ H' → Q p.1 H') noX) : xT K T W m σ H Q := ⟨P, G, Γ, s, F, h⟩
theorem xE.by (F : Fr K T W P G Γ s σ H) (h : (m Γ).run s (fun p s' => ∀ v G' H', Sub G G' → Fr K T W P G' p.2 s' σ H' → RR K T W P G' p.2 s' σ H' v p.1 → Q v H') noX) : xE K T W m σ H Q := ⟨P, G, Γ, s, F, h⟩
theorem kont {r : Rv} {G0 : Hp} (sub : Sub G0 G) (h : ∀ v G' H', Sub G0 G' → Fr K T W P G' Γ s σ H' → RR K T W P G' Γ s σ H' v r → Q v H') : Kont K T W P G Γ s σ Q r := fun v G' H' s2 F r => h v G' H' (sub.trans s2) F r
end

section
variable {S : Type} {X : Cx} {T : Nat → Option Addr} {W : Wd S}
theorem _root_.L2.PE.weaken {e : Expr} {t t' : TE} (h : PE X e t) (f : ∀ σ H Q, t' σ H Q → t σ H Q) : PE X e t' := ⟨fun pins s σ H Q I q => h.run pins s σ H Q I (f _ _ _ q)⟩
theorem _root_.L2.PT.weaken {e : Expr} {t t' : TT} (h : PT X e t) (f : ∀ σ H Q, t' σ H Q → t σ H Q) : PT X e t' := ⟨fun pins s σ H Q I q => h.run pins s σ H Q I (f _ _ _ q)⟩
theorem _root_.L2.PW.weaken {e : Expr} {t t' : TT} (h : PW X e t) (f : ∀ σ H Q, t' σ H Q → t σ H Q) : PW X e t' := ⟨fun wh pins s σ H Q I q => h.run wh pins s σ H Q I (f _ _ _ q)⟩
theorem _root_.L2.PA.weaken {e : List Expr} {t t' : TA} (h : PA X e t) (f : ∀ σ H Q, t' σ H Q → t σ H Q) : PA X e t' := ⟨fun pos pins s σ H Q I q => h.run pos pins s σ H Q I (f _ _ _ q)⟩
theorem _root_.L2.PO.weaken {e : Option Expr} {t t' : TO} (h : PO X e t) (f : ∀ σ H Q, t' σ H Q → t σ H Q) : PO X e t' := ⟨fun pins s σ H Q I q => h.run pins s σ H Q I (f _ _ _ q)⟩
theorem _root_.L2.PS.weaken {e : Stmt} {t t' : TS} (h : PS X e t) (f : ∀ D σ H, t' D σ H → t D σ H) : PS X e t' := ⟨fun pins s σ H Q I q => h.run pins s σ H Q I (f _ _ _ q)⟩
theorem _root_.L2.PSs.weaken {e : List Stmt} {t t' : TS} (h : PSs X e t) (f : ∀ D σ H, t' D σ H → t D σ H) : PSs X e t' := ⟨fun pins s σ H Q I q => h.run pins s σ H Q I (f _ _ _ q)⟩
theorem _root_.L2.PI.weaken {tg e : Expr} {t t' : TI} (h : PI X tg e t) (f : ∀ σ H Q, t' σ H Q → t σ H Q) : PI X tg e t' := ⟨fun pins s σ H Q I q => h.run pins s σ H Q I (f _ _ _ q)⟩

variable (X T W)
abbrev DE (e : Expr) (m : TEv S) : Prop := PE X e (xE X.K T W m)
abbrev DA (e : List Expr) (m : TEs S) : Prop := PA X e (xA X.K T W m)
abbrev DOp (e : Option Expr) (m : TOv S) : Prop := PO X e (xO X.K T W m)
abbrev DT (e : Expr) (m : TTv S) : Prop := PT X e (xT X.K T W m)
abbrev DW (e : Expr) (m : TTv S) : Prop := PW X e (xT X.K T W m)
variable {X T W}
variable {ea eb ec : Expr} {a b c : TEv S} {pos : Pos}

theorem de_var {i : Nat} {x : Str} (hN : X.N[i]? = some x) (hv : Vis X.env.scope x) (hd : (x == ("__debug__" : Str)) = false := by decide) (hcd : (x == ("__classdict__" : Str)) = false := by decide) : DE X T W (.Name x pos) (eVar i) := (pe_var hN hv hd hcd).weaken fun σ H Q ⟨P, G, Γ, s, F, h⟩ => by
  unfold eVar at h
  cases e : Γ[i]? with
  | none => rw [e] at h; exact h.elim
  | some sl =>
    rw [e] at h
    cases sl with
    | no => exact h.elim
    | dat d =>
      obtain ⟨v, h1, h2⟩ := F.dat i d e
      exact ⟨v, h1, h v G H (Sub.refl _) F (.dat h2)⟩
    | own d =>
      obtain ⟨v, h1, h2, _⟩ := F.own i d e
      exact ⟨_, h1, h _ G H (Sub.refl _) F (.slot e h1)⟩
/-- a constant's data, wherever it stands -/
def CD (K : PySem.W.Frag) (T : Nat → Option Addr) (v : V) (d : D) : Prop := ∀ G, DR K T G v d
theorem de_c {e : Expr} {v : V} {d : D} (h : PE X e (tC v)) (k : CD X.K T v d) : DE X T W e (eK d) := h.weaken fun σ H Q ⟨P, G, Γ, s, F, h⟩ => h v G H (Sub.refl _) F (.dat (k G))
theorem de_int {i j} : DE X T W (.Constant (.int i) j pos) (eK (.int i)) := de_c pe_int fun _ => .int i
theorem de_bl {i j} : DE X T W (.Constant (.bool i) j pos) (eK (.bl i)) := de_c pe_bl fun _ => .bl i
theorem de_non {j} : DE X T W (.Constant .none j pos) (eK .non) := de_c pe_non fun _ => .non
theorem de_str {x j} : DE X T W (.Constant (.str x) j pos) (eK (.str x)) := de_c pe_str fun _ => .str x
theorem de_glob {x : Str} {u : Value} {v : V} {d : D} (hg : Gl X x) (hm : X.mg x = some u) (r : RelV v u) (k : CD X.K T v d) (hd : (x == ("__debug__" : Str)) = false := by decide) : DE X T W (.Name x pos) (eK d) := de_c (pe_glob hg hm r hd) k

/-- two operands -/
theorem le2 {f : D → D → M S Rv} {r : R2} (st : ∀ {P G H : Hp} {Γ : List Sl} {s : S} {σ : L2.St} {Q : VK} {v w : V} {x y : D} {Qr : Rv → S → Prop}, Fr X.K T W P G Γ s σ H → DO X.K T G H v x → DO X.K T G H w y → (f x y).run s Qr noX → (∀ r, Qr r s → Kont X.K T W P G Γ s σ Q r) → r v w H Q)
    (σ : L2.St) (H : Hp) (Q : VK) : xE X.K T W (e2 f a b) σ H Q → tOp r (xE X.K T W a) (xE X.K T W b) σ H Q := fun ⟨P, G, Γ, s, F, h⟩ => by
  refine xE.opd F (M.weak h fun p s1 h v G1 H1 u1 F1 o1 => ?_)
  refine xE.opd F1 (M.weak h fun q s2 h w G2 H2 u2 F2 o2 => ?_)
  obtain ⟨x, dx, h⟩ := use_run F2 (o1.mono u2) h
  obtain ⟨y, dy, h⟩ := use_run F2 o2 h
  exact st F2 dx dy h fun r hr => kont (u1.trans u2) hr
theorem le_bin (o : Bo) (σ : L2.St) (H : Hp) (Q : VK) : xE X.K T W (eBin o a b) σ H Q → tOp (rBin X.K o) (xE X.K T W a) (xE X.K T W b) σ H Q := le2 (fun F x y h q => bin_ok F x y h q) σ H Q
theorem le_cmp (o : Cm) (σ : L2.St) (H : Hp) (Q : VK) : xE X.K T W (eCmp o a b) σ H Q → tOp (rCmp X.K o) (xE X.K T W a) (xE X.K T W b) σ H Q := le2 (fun F x y h q => cmp_ok F x y h fun r hr => q (.dat r) hr) σ H Q
theorem le_idx (σ : L2.St) (H : Hp) (Q : VK) : xE X.K T W (eIdx a b) σ H Q → tOp (rIdx X.K) (xE X.K T W a) (xE X.K T W b) σ H Q := le2 (fun F x y h q => idx_ok F x y h fun r hr => q (.dat r) hr) σ H Q
theorem de_bin (o : Bo) (ha : DE X T W ea a) (hb : DE X T W eb b) : DE X T W (.BinOp ea (opOf o) eb pos) (eBin o a b) := (pe_op (rBin_ok o) ha hb).weaken (le_bin o)
theorem de_neg (ha : DE X T W ea a) : DE X T W (.UnaryOp .USub ea pos) (eNeg a) := (pe_un un_neg ha).weaken fun σ H Q ⟨P, G, Γ, s, F, h⟩ => by
  refine xE.opd F (M.weak h fun p s1 h v G1 H1 u1 F1 o1 => ?_)
  obtain ⟨x, dx, h⟩ := use_run F1 o1 h
  obtain ⟨i, rfl, h⟩ := isI_run h
  exact ⟨i, dx.int, h _ G1 H1 u1 F1 (.dat (.int _))⟩
theorem de_cmp (o : Cm) (hu : X.A.units + 64 < cLine) (ha : DE X T W ea a) (hb : DE X T W eb b) (hm : behindInMarks (cmOf o) eb = false) : DE X T W (.Compare ea [cmOf o] [eb] pos) (eCmp o a b) := (pe_cmpR (rCmp_ok hu o) ha hb hm).weaken (le_cmp o)
theorem de_idx (ha : DE X T W ea a) (hb : DE X T W eb b) (hs : PlainIx eb) : DE X T W (.Subscript ea eb pos) (eIdx a b) := (pe_ix rIdx_ok ha hb hs).weaken le_idx

/-! ### tests -/
/-- it gives a bool -/
def IsBl (m : TEv S) : Prop := ∀ (Γ : List Sl) (s : S) (Q : Rv × List Sl → S → Prop), (m Γ).run s Q noX → (m Γ).run s (fun p s' => Q p s' ∧ ∃ t, p.1 = .dat (.bl t)) noX
theorem cmp_bl {o : Cm} {x y : D} {s : S} {Q : D → S → Prop} (h : (opCmp o x y).run s Q noX) : (opCmp o x y).run s (fun r s' => Q r s' ∧ ∃ t, r = .bl t) noX := by
  unfold opCmp at h ⊢
  split at h <;> first
    | exact ⟨h, _, rfl⟩
    | exact ⟨h.1, h.2, _, rfl⟩
    | exact h.elim
theorem opt_weak {α β : Type} {o : Option α} {f g : α → M S β} {s : S} {Q Q' : β → S → Prop} {E : Xn → S → Prop} (h : ((M.opt o).bind f).run s Q E) (k : ∀ a, (f a).run s Q E → (g a).run s Q' E) : ((M.opt o).bind g).run s Q' E := by
  cases o with
  | none => exact h.elim
  | some a => exact k a h
theorem isb_cmp (o : Cm) : IsBl (eCmp o a b) := fun Γ s Q h => by
  refine M.weak (m := a Γ) h fun p s1 h => M.weak (m := b p.2) h fun q s2 h => ?_
  refine opt_weak h fun x h => opt_weak h fun y h => ?_
  exact M.weak (m := opCmp o x y) (cmp_bl (Q := fun r s' => Q (.dat r, q.2) s') h) fun r s' h => ⟨h.1, by obtain ⟨t, e⟩ := h.2; exact ⟨t, by rw [e]⟩⟩
/-- a test by an expression that gives a bool -/
theorem test_le {m : TEv S} (hb : IsBl m) {σ : L2.St} {H : Hp} {Q : Bool → Hp → Prop} : xT X.K T W (qVal m) σ H Q → xE X.K T W m σ H fun x H' => ∃ k, x = .bl k ∧ Q k H' := fun ⟨P, G, Γ, s, F, h⟩ => by
  refine xE.by F (M.weak (hb Γ s _ h) fun p s1 ⟨h, t, e⟩ v G1 H1 u1 F1 r1 => ?_)
  obtain ⟨p1, p2⟩ := p
  cases e
  cases r1 with
  | dat r1 =>
    cases r1
    exact ⟨t, rfl, h G1 H1 u1 F1⟩
theorem dt_cmp (o : Cm) (hu : X.A.units + 64 < cLine) (ha : DE X T W ea a) (hb : DE X T W eb b) (hm : behindInMarks (cmOf o) eb = false) : DT X T W (.Compare ea [cmOf o] [eb] pos) (qVal (eCmp o a b)) := (pt_cmpR (rCmp_ok hu o) ha hb hm).weaken fun σ H Q h => le_cmp o σ H _ (test_le (isb_cmp o) h)
theorem le_chain (o u : Cm) (σ : L2.St) (H : Hp) (Q : VK) : xE X.K T W (eChain o u a b c) σ H Q → tChain (rCmp X.K o) (rCmp X.K u) (xE X.K T W a) (xE X.K T W b) (xE X.K T W c) σ H Q := fun ⟨P, G, Γ, s, F, h⟩ => by
  refine xE.opd F (M.weak h fun p s1 h v G1 H1 u1 F1 o1 => ?_)
  refine xE.opd F1 (M.weak h fun q s2 h w G2 H2 u2 F2 o2 => ?_)
  obtain ⟨x, dx, h⟩ := use_run F2 (o1.mono u2) h
  obtain ⟨y, dy, h⟩ := use_run F2 o2 h
  refine cmp_ok F2 dx dy h fun r hr => ?_
  obtain ⟨t, rfl, hr⟩ := isB_run hr
  intro v' G3 H3 u3 F3 r3
  cases r3 with
  | dat r3 =>
    cases r3
    refine ⟨t, rfl, ?_⟩
    cases t with
    | false =>
      rw [if_neg (by decide)]
      exact hr.2 rfl _ G3 H3 ((u1.trans u2).trans u3) F3 (.dat (.bl _))
    | true =>
      rw [if_pos rfl]
      refine xE.opd F3 (M.weak (hr.1 rfl) fun z s4 h z' G4 H4 u4 F4 o4 => ?_)
      obtain ⟨y', dy', h⟩ := use_run F4 (o2.mono (u3.trans u4)) h
      obtain ⟨z, dz, h⟩ := use_run F4 o4 h
      exact cmp_ok F4 dy' dz h fun r hr => kont (((u1.trans u2).trans u3).trans u4) hr
theorem isb_chain (o u : Cm) : IsBl (eChain o u a b c) := fun Γ s Q h => by
  refine M.weak (m := a Γ) h fun p s1 h => M.weak (m := b p.2) h fun q s2 h => ?_
  refine opt_weak h fun x h => opt_weak h fun y h => ?_
  refine M.weak (m := opCmp o x y) h fun r s3 h => ?_
  cases r with
  | bl t =>
    cases t with
    | false => exact ⟨fun e => (nomatch e), fun _ => ⟨h.2 rfl, _, rfl⟩⟩
    | true =>
      refine ⟨fun _ => ?_, fun e => (nomatch e)⟩
      refine M.weak (m := c q.2) (h.1 rfl) fun w s4 h => opt_weak h fun y' h => opt_weak h fun z h => ?_
      exact M.weak (m := opCmp u y' z) (cmp_bl (Q := fun r s' => Q (.dat r, w.2) s') h) fun r s' h => ⟨h.1, by obtain ⟨t, e⟩ := h.2; exact ⟨t, by rw [e]⟩⟩
  | _ => exact h.elim
theorem de_chain (o u : Cm) (hu : X.A.units + 64 < cLine) (ha : DE X T W ea a) (hb : DE X T W eb b) (hc : DE X T W ec c) (hm : lastMarks [cmOf o, cmOf u] [eb, ec] = false) : DE X T W (.Compare ea [cmOf o, cmOf u] [eb, ec] pos) (eChain o u a b c) := (pe_chain (rCmp_ok hu o) (rCmp_ok hu u) ha hb hc hm).weaken (le_chain o u)
theorem dt_chain (o u : Cm) (hu : X.A.units + 64 < cLine) (ha : DE X T W ea a) (hb : DE X T W eb b) (hc : DE X T W ec c) (hm : lastMarks [cmOf o, cmOf u] [eb, ec] = false) : DT X T W (.Compare ea [cmOf o, cmOf u] [eb, ec] pos) (qVal (eChain o u a b c)) :=
  (pt_chain (rCmp_ok hu o) (rCmp_ok hu u) ha hb hc hm).weaken fun σ H Q h => le_chain o u σ H _ (test_le (isb_chain o u) h)
/-- the truth of a value -/
theorem tru_of {G H : Hp} (sub : Sub G H) {v : V} {d : D} {t : Bool} (h : DO X.K T G H v d) (e : d.truth = some t) : TruV X.K v H t := by
  cases d with
  | non => cases e; rw [h.non]; exact rfl
  | bl b => cases e; rw [h.bl]; exact rfl
  | int i => cases e; rw [h.int]; exact rfl
  | str z => cases e
  | tup ds =>
    cases e
    obtain ⟨a, xs, rfl, ha, r⟩ := h.tup sub
    exact .inr (.inl ⟨xs, ha.sq, by cases r <;> rfl⟩)
  | lst ds =>
    cases e
    obtain ⟨a, xs, rfl, ha, r⟩ := h.lst sub
    exact .inl ⟨xs, SqL.of ha, by cases r <;> rfl⟩
  | _ => cases e
theorem dt_val (ha : DE X T W ea a) (he : ∀ whole, isTrue ea X.env whole = (do let v ← whole; standAt ea.pos; holding [v] (truthy v))) : DT X T W ea (qVal a) := (pt_truth ha he).weaken fun σ H Q ⟨P, G, Γ, s, F, h⟩ => by
  refine xE.opd F (M.weak h fun p s1 h v G1 H1 u1 F1 o1 => ?_)
  obtain ⟨x, dx, h⟩ := use_run F1 o1 h
  obtain ⟨t, e, h⟩ := opt_run h
  exact ⟨t, tru_of F1.wf.gh dx e, h G1 H1 u1 F1⟩
variable {ta tb : TTv S} {rest : List Expr}
theorem dw_and1 (ha : DT X T W ea ta) : DW X T W (.BoolOp .And [ea] pos) ta := pw_and1 ha
theorem dw_or1 (ha : DT X T W ea ta) : DW X T W (.BoolOp .Or [ea] pos) ta := pw_or1 ha
theorem dw_and (ha : DT X T W ea ta) (hb : DW X T W (.BoolOp .And (eb :: rest) pos) tb) : DW X T W (.BoolOp .And (ea :: eb :: rest) pos) (qAnd ta tb) := (pw_and ha hb).weaken fun σ H Q ⟨P, G, Γ, s, F, h⟩ => by
  refine xT.by F (M.weak h fun p s1 h G1 H1 u1 F1 => ?_)
  cases e : p.1 with
  | true =>
    rw [if_pos rfl]
    exact xT.by F1 (M.weak (h.1 e) fun q s2 h G2 H2 u2 F2 => h G2 H2 (u1.trans u2) F2)
  | false =>
    rw [if_neg (by decide)]
    exact h.2 e G1 H1 u1 F1
theorem dw_or (ha : DT X T W ea ta) (hb : DW X T W (.BoolOp .Or (eb :: rest) pos) tb) : DW X T W (.BoolOp .Or (ea :: eb :: rest) pos) (qOr ta tb) := (pw_or ha hb).weaken fun σ H Q ⟨P, G, Γ, s, F, h⟩ => by
  refine xT.by F (M.weak h fun p s1 h G1 H1 u1 F1 => ?_)
  cases e : p.1 with
  | true =>
    rw [if_pos rfl]
    exact h.1 e G1 H1 u1 F1
  | false =>
    rw [if_neg (by decide)]
    exact xT.by F1 (M.weak (h.2 e) fun q s2 h G2 H2 u2 F2 => h G2 H2 (u1.trans u2) F2)
theorem dt_w (h : DW X T W ea ta) : DT X T W ea ta := h.pt
theorem dt_not (ha : DT X T W ea ta) : DT X T W (.UnaryOp .Not ea pos) (qNot ta) := (pt_not ha).weaken fun σ H Q ⟨P, G, Γ, s, F, h⟩ => xT.by F (M.weak h fun p s1 h G1 H1 u1 F1 => h G1 H1 u1 F1)
theorem de_one {op} (h : DE X T W ea a) : DE X T W (.BoolOp op [ea] pos) a := pe_one h
theorem de_and (ha : DE X T W ea a) (hb : DE X T W (.BoolOp .And (eb :: rest) pos) b) : DE X T W (.BoolOp .And (ea :: eb :: rest) pos) (eAnd a b) := (pe_and ha hb).weaken fun σ H Q ⟨P, G, Γ, s, F, h⟩ => by
  refine xE.opd F (M.weak h fun p s1 h v G1 H1 u1 F1 o1 => ?_)
  obtain ⟨x, dx, h⟩ := use_run F1 o1 h
  obtain ⟨t, rfl, h⟩ := isB_run h
  refine ⟨t, dx.bl, ?_⟩
  cases t with
  | true =>
    rw [if_pos rfl]
    exact xE.by F1 (M.weak (h.1 rfl) fun q s2 h v G2 H2 u2 F2 r2 => h v G2 H2 (u1.trans u2) F2 r2)
  | false =>
    rw [if_neg (by decide)]
    exact h.2 rfl _ G1 H1 u1 F1 (.dat (.bl _))
theorem de_or (ha : DE X T W ea a) (hb : DE X T W (.BoolOp .Or (eb :: rest) pos) b) : DE X T W (.BoolOp .Or (ea :: eb :: rest) pos) (eOr a b) := (pe_or ha hb).weaken fun σ H Q ⟨P, G, Γ, s, F, h⟩ => by
  refine xE.opd F (M.weak h fun p s1 h v G1 H1 u1 F1 o1 => ?_)
  obtain ⟨x, dx, h⟩ := use_run F1 o1 h
  obtain ⟨t, rfl, h⟩ := isB_run h
  refine ⟨t, dx.bl, ?_⟩
  cases t with
  | true =>
    rw [if_pos rfl]
    exact h.1 rfl _ G1 H1 u1 F1 (.dat (.bl _))
  | false =>
    rw [if_neg (by decide)]
    exact xE.by F1 (M.weak (h.2 rfl) fun q s2 h v G2 H2 u2 F2 r2 => h v G2 H2 (u1.trans u2) F2 r2)
theorem de_not (ha : DE X T W ea a) : DE X T W (.UnaryOp .Not ea pos) (eNot a) := (pe_not ha).weaken fun σ H Q ⟨P, G, Γ, s, F, h⟩ => by
  refine xE.opd F (M.weak h fun p s1 h v G1 H1 u1 F1 o1 => ?_)
  obtain ⟨x, dx, h⟩ := use_run F1 o1 h
  obtain ⟨t, rfl, h⟩ := isB_run h
  exact ⟨t, dx.bl, h _ G1 H1 u1 F1 (.dat (.bl _))⟩
theorem de_if (hc : DT X T W ec ta) (ha : DE X T W ea a) (hb : DE X T W eb b) : DE X T W (.IfExp ec ea eb pos) (eIf ta a b) := (pe_ifExp hc ha hb).weaken fun σ H Q ⟨P, G, Γ, s, F, h⟩ => by
  refine xT.by F (M.weak h fun p s1 h G1 H1 u1 F1 => ?_)
  cases e : p.1 with
  | true =>
    rw [if_pos rfl]
    exact xE.by F1 (M.weak (h.1 e) fun q s2 h v G2 H2 u2 F2 r2 => h v G2 H2 (u1.trans u2) F2 r2)
  | false =>
    rw [if_neg (by decide)]
    exact xE.by F1 (M.weak (h.2 e) fun q s2 h v G2 H2 u2 F2 r2 => h v G2 H2 (u1.trans u2) F2 r2)

/-! ### argument lists, displays, slices -/
variable {es : List Expr} {ms : TEs S}
theorem da_nil : DA X T W [] (sNil : TEs S) := pa_nil.weaken fun σ H Q ⟨P, G, Γ, s, F, h⟩ => h [] G H (Sub.refl _) F True.intro
theorem da_cons (ha : DE X T W ea a) (hr : DA X T W es ms) (hs : starEach (ea :: es) X.env = (false, eval ea X.env) :: starEach es X.env := by rfl) : DA X T W (ea :: es) (sCons a ms) := (pa_cons ha hr hs).weaken fun σ H Q ⟨P, G, Γ, s, F, h⟩ => by
  refine xE.opd F (M.weak h fun p s1 h v G1 H1 u1 F1 o1 => ?_)
  exact xA.by F1 (M.weak h fun q s2 h vs G2 H2 u2 F2 o2 => h (v :: vs) G2 H2 (u1.trans u2) F2 ⟨o1.mono u2, o2⟩)
theorem de_tup {x1} (ha : DA X T W es ms) : DE X T W (.Tuple es x1 pos) (eTup ms) := (pe_tupF ha).weaken fun σ H Q ⟨P, G, Γ, s, F, h⟩ => by
  refine xA.by F (M.weak h fun p s1 h vs G1 H1 u1 F1 o1 => ?_)
  obtain ⟨q, e, h⟩ := opt_run h
  obtain ⟨G2, u2, F2, r⟩ := OPs.frz F1 o1 e
  have l := r.length
  refine ⟨size_ok (by have := h.1; omega), ?_⟩
  exact Kont.newT (kont (u1.trans u2) h.2) F2 r
theorem de_lst (ha : DA X T W es ms) : DE X T W (.List es pos) (eLst ms) := (pe_lst ha).weaken fun σ H Q ⟨P, G, Γ, s, F, h⟩ => by
  refine xA.by F (M.weak h fun p s1 h vs G1 H1 u1 F1 o1 => ?_)
  obtain ⟨q, e, h⟩ := opt_run h
  obtain ⟨G2, u2, F2, r⟩ := OPs.frz F1 o1 e
  have l := r.length
  refine ⟨size_ok (by have := h.1; omega), ?_⟩
  exact Kont.newL (kont (u1.trans u2) h.2) F2 r
variable {el eh : Option Expr} {ol oh : TOv S}
theorem do_none : DOp X T W none (oNone : TOv S) := po_none.weaken fun σ H Q ⟨P, G, Γ, s, F, h⟩ => h G H (Sub.refl _) F
theorem do_some (ha : DE X T W ea a) : DOp X T W (some ea) (oSome a) := (po_some ha).weaken fun σ H Q ⟨P, G, Γ, s, F, h⟩ => by
  refine xE.opd F (M.weak h fun p s1 h v G1 H1 u1 F1 o1 => ?_)
  obtain ⟨x, dx, h⟩ := use_run F1 o1 h
  obtain ⟨i, rfl, h⟩ := isI_run h
  exact ⟨i, dx.int, h G1 H1 u1 F1⟩
theorem de_slc {p2 : Pos} (ha : DE X T W ea a) (hl : DOp X T W el ol) (hh : DOp X T W eh oh) : DE X T W (.Subscript ea (.Slice el eh none p2) pos) (eSlc a ol oh) := (pe_slice rSlc_ok ha hl hh).weaken fun σ H Q ⟨P, G, Γ, s, F, h⟩ => by
  refine xE.opd F (M.weak h fun p s1 h v G1 H1 u1 F1 o1 => ?_)
  refine xO.by F1 (M.weak h fun q s2 h G2 H2 u2 F2 => ?_)
  refine xO.by F2 (M.weak h fun w s3 h G3 H3 u3 F3 => ?_)
  obtain ⟨x, dx, h⟩ := use_run F3 (o1.mono (u2.trans u3)) h
  exact slc_ok F3 dx h fun r hr => kont (u1.trans (u2.trans u3)) hr
theorem de_rev {k : Nat} {p1 p2 p3 : Pos} (ha : DE X T W ea a) : DE X T W (.Subscript ea (.Slice none none (some (.UnaryOp .USub (.Constant (.int 1) k p1) p2)) p3) pos) (eRev a) := (pe_revL ha).weaken fun σ H Q ⟨P, G, Γ, s, F, h⟩ => by
  refine xE.opd F (M.weak h fun p s1 h v G1 H1 u1 F1 o1 => ?_)
  obtain ⟨x, dx, h⟩ := use_run F1 o1 h
  cases x with
  | lst ds =>
    obtain ⟨q, xs, rfl, ha, r⟩ := dx.lst F1.wf.gh
    exact ⟨q, xs, rfl, SqL.of ha, Kont.newL (ds := ds.reverse) (kont u1 h) F1 r.reverse⟩
  | _ => exact h.elim

/-! ### built-ins -/
theorem le_bi {bi : Bi} (hb : bi.std = true) (σ : L2.St) (H : Hp) (Q : VK) : xE X.K T W (eBi bi ms) σ H Q → tCB (rBi X.K bi) (xA X.K T W ms) σ H Q := fun ⟨P, G, Γ, s, F, h⟩ => by
  refine xA.by F (M.weak h fun p s1 h vs G1 H1 u1 F1 o1 => ?_)
  obtain ⟨xs, e, h⟩ := opt_run h
  exact bi_ok F1 (OPs.vals F1 o1 e) hb h fun r hr => kont u1 hr
theorem de_biF {x : Str} {p : Pos} {id : String} (bi : Bi) (hu : X.A.units + 64 < cLine) (hgd : X.A.guards = some []) (hc : X.calm = true) (hg : Gl X x) (hm : X.mg x = none) (hv : bootBuiltins x = some (.builtin id)) (hbi : biOf bi = .builtin id) (ha : DA X T W (ea :: es) ms) (hb : bi.std = true := by rfl) (hn : x ≠ "__name__" := by decide) (hdb : (x == ("__debug__" : Str)) = false := by decide)
    (he : starEach (ea :: es) X.env = (false, eval ea X.env) :: starEach es X.env := by rfl) (hpl : (backTo pos (starEach es X.env)).any (·.1) = false := by rfl) : DE X T W (.Call (.Name x p) (ea :: es) [] pos) (eBi bi ms) :=
  (pe_callB (hbi ▸ rBi_ok hu hgd hc bi hb) hg hm hv ha hn hdb he hpl).weaken (le_bi hb)
theorem de_biT {x : Str} {p : Pos} {id : String} (bi : Bi) (hu : X.A.units + 64 < cLine) (hgd : X.A.guards = some []) (hc : X.calm = true) (hg : Gl X x) (hm : X.mg x = none) (hv : bootBuiltins x = some (.type id)) (hbi : biOf bi = .type id) (ha : DA X T W (ea :: es) ms) (hb : bi.std = true := by rfl) (hn : x ≠ "__name__" := by decide) (hdb : (x == ("__debug__" : Str)) = false := by decide)
    (he : starEach (ea :: es) X.env = (false, eval ea X.env) :: starEach es X.env := by rfl) (hpl : (backTo pos (starEach es X.env)).any (·.1) = false := by rfl) : DE X T W (.Call (.Name x p) (ea :: es) [] pos) (eBi bi ms) :=
  (pe_callTy (hbi ▸ rBi_ok hu hgd hc bi hb) hg hm hv ha hn hdb he hpl).weaken (le_bi hb)
end
end Ev
/-! from E5.lean -/
set_option maxRecDepth 100000
set_option maxHeartbeats 4000000
/-! Ev, part 5: methods, statements, loops. -/
namespace Ev
open PySem PySem.Spec PyProof.Rows L2

section
variable {S : Type} {K : PySem.W.Frag} {T : Nat → Option Addr} {W : Wd S} {P G G' H : Hp} {Γ : List Sl} {s : S} {σ : L2.St}
theorem ownL_run {β : Type} {i : Nat} {f : List D → M S β} {Q : β → S → Prop} {E : Xn → S → Prop} (F : Fr K T W P G Γ s σ H) (h : ((M.opt (ownL Γ i)).bind f).run s Q E) :
    ∃ ds a xs, Γ[i]? = some (.own (.lst ds)) ∧ σ[i]? = some (some (.ref a)) ∧ H a = some (.lst xs) ∧ DRs K T G xs ds ∧ Mine W P G s a ∧ (f ds).run s Q E := by
  obtain ⟨ds, e, h⟩ := opt_run h
  unfold ownL at e
  split at e
  · rename_i e'
    cases e
    obtain ⟨a, h1, ⟨xs, h2, h3⟩, m⟩ := F.own i _ e'
    exact ⟨ds, a, xs, e', h1, h2, h3, m, h⟩
  · cases e
/-- the list in slot i is written -/
theorem Fr.put (F : Fr K T W P G Γ s σ H) {i : Nat} {ds es : List D} {a : Addr} {ys : List V} (e : Γ[i]? = some (.own (.lst ds))) (ha : σ[i]? = some (some (.ref a))) (r : DRs K T G ys es) : Fr K T W P G (Γ.set i (.own (.lst es))) s σ (upd H a (.lst ys)) := F.write e ha ⟨ys, upd_same, r⟩
theorem frz_run {β : Type} {r : Rv} {v : V} {f : D × List Sl → M S β} {Q : β → S → Prop} {E : Xn → S → Prop} (F : Fr K T W P G Γ s σ H) (o : OP K T G σ v (opd r)) (h : ((M.opt (Ev.frz Γ (opd r))).bind f).run s Q E) : ∃ d Γ' G', Sub G G' ∧ Fr K T W P G' Γ' s σ H ∧ DR K T G' v d ∧ (f (d, Γ')).run s Q E := by
  obtain ⟨⟨d, Γ'⟩, e, h⟩ := opt_run h
  obtain ⟨G', u, F', dr⟩ := o.frz F e
  exact ⟨d, Γ', G', u, F', dr, h⟩

/-! ### own objects that wait -/
def OwnOb (K : PySem.W.Frag) (T : Nat → Option Addr) (G : Hp) (o : HO) : D → Prop
  | .lst ds => ∃ xs, o = .lst xs ∧ DRs K T G xs ds
  | _ => False
/-- the value v of a result that waits: a new object is kept -/
inductive Ow (K : PySem.W.Frag) (T : Nat → Option Addr) (G : Hp) (σ : L2.St) (P : Hp) : Hp → V → Rv → Prop
  | dat {v : V} {d : D} : DR K T G v d → Ow K T G σ P P v (.dat d)
  | slot {v : V} {i : Nat} : σ[i]? = some (some v) → Ow K T G σ P P v (.slot i)
  | own {a : Addr} {o : HO} {d : D} : P a = none → OwnOb K T G o d → Ow K T G σ P (upd P a o) (.ref a) (.own d)
theorem OwnOb.mono (u : Sub G G') {o : HO} {d : D} (h : OwnOb K T G o d) : OwnOb K T G' o d := by
  cases d with
  | lst ds =>
    obtain ⟨xs, e, r⟩ := h
    exact ⟨xs, e, r.mono u⟩
  | _ => exact h.elim
theorem Ow.mono (u : Sub G G') {P' : Hp} {v : V} {r : Rv} (h : Ow K T G σ P P' v r) : Ow K T G' σ P P' v r := by
  cases h with
  | dat h => exact .dat (h.mono u)
  | slot h => exact .slot h
  | own n h => exact .own n (h.mono u)
/-- an own object is kept while other things run -/
theorem Fr.hold (F : Fr K T W P G Γ s σ H) {a : Addr} {o : HO} (m : Mine W P G s a) (ho : H a = some o) (off : Off Γ σ a) : Fr K T W (upd P a o) G Γ s σ H := by
  refine ⟨⟨F.wf.gh, fun b u e => ?_, fun b u e => ?_, fun b u e => ?_, F.wf.gf, F.wf.w⟩, F.len, F.dat, fun i d' e => ?_, F.inj⟩
  · by_cases z : b = a
    · subst z; rw [upd_same] at e; cases e; exact ho
    · rw [upd_ne z] at e; exact F.wf.ph b u e
  · by_cases z : b = a
    · subst z; exact m.g
    · rw [upd_ne z] at e; exact F.wf.pg b u e
  · by_cases z : b = a
    · subst z; exact m.f
    · rw [upd_ne z] at e; exact F.wf.pf b u e
  · obtain ⟨b, h1, h2, h3⟩ := F.own i d' e
    have z : b ≠ a := fun z => off i d' e (z ▸ h1)
    exact ⟨b, h1, h2, h3.g, by rw [upd_ne z]; exact h3.p, h3.f⟩
theorem Ow.of (F : Fr K T W P G Γ s σ H) {v : V} {r : Rv} (h : RR K T W P G Γ s σ H v r) : ∃ P', Fr K T W P' G Γ s σ H ∧ Ow K T G σ P P' v r := by
  cases h with
  | dat h => exact ⟨P, F, .dat h⟩
  | slot h1 h2 => exact ⟨P, F, .slot h2⟩
  | @own a d h m off =>
    obtain ⟨o, ho⟩ := h.there
    have ob : OwnOb K T G o d := by
      cases d with
      | lst ds =>
        obtain ⟨xs, e, r⟩ := h
        rw [ho] at e; cases e
        exact ⟨xs, rfl, r⟩
      | _ => exact h.elim
    refine ⟨upd P a o, ⟨⟨F.wf.gh, fun b u e => ?_, fun b u e => ?_, fun b u e => ?_, F.wf.gf, F.wf.w⟩, F.len, F.dat, fun i d' e => ?_, F.inj⟩, .own m.p ob⟩
    · by_cases z : b = a
      · subst z; rw [upd_same] at e; cases e; exact ho
      · rw [upd_ne z] at e; exact F.wf.ph b u e
    · by_cases z : b = a
      · subst z; exact m.g
      · rw [upd_ne z] at e; exact F.wf.pg b u e
    · by_cases z : b = a
      · subst z; exact m.f
      · rw [upd_ne z] at e; exact F.wf.pf b u e
    · obtain ⟨b, h1, h2, h3⟩ := F.own i d' e
      have z : b ≠ a := fun z => off i d' e (z ▸ h1)
      exact ⟨b, h1, h2, h3.g, by rw [upd_ne z]; exact h3.p, h3.f⟩
theorem fix_run {β : Type} {P1 P2 : Hp} {r : Rv} {v : V} {f : Rv × List Sl → M S β} {Q : β → S → Prop} {E : Xn → S → Prop} (F : Fr K T W P2 G Γ s σ H) (o : Ow K T G σ P P1 v r) (h : ((M.opt (fixRv Γ r)).bind f).run s Q E) :
    ∃ r' Γ' G', Sub G G' ∧ Fr K T W P2 G' Γ' s σ H ∧ Ow K T G' σ P P1 v r' ∧ (∀ i, r' ≠ .slot i) ∧ (f (r', Γ')).run s Q E := by
  obtain ⟨⟨r', Γ'⟩, e, h⟩ := opt_run h
  cases o with
  | dat o => cases e; exact ⟨_, _, G, Sub.refl _, F, .dat o, fun _ z => (nomatch z), h⟩
  | own n o => cases e; exact ⟨_, _, G, Sub.refl _, F, .own n o, fun _ z => (nomatch z), h⟩
  | @slot v i o =>
    simp only [fixRv] at e
    cases e3 : Ev.frz Γ (.slot i) with
    | none => rw [e3] at e; cases e
    | some q =>
      obtain ⟨d, Γ2⟩ := q
      rw [e3] at e; cases e
      obtain ⟨G', u, F', dr⟩ := OP.frz (r := .slot i) F o e3
      exact ⟨_, _, G', u, F', .dat dr, fun _ z => (nomatch z), h⟩
/-- a kept object is one's own again -/
theorem Fr.back {a : Addr} {o : HO} (F : Fr K T W (upd P a o) G Γ s σ H) (n : P a = none) : Fr K T W P G Γ s σ H ∧ Mine W P G s a ∧ Off Γ σ a ∧ H a = some o := by
  have sub : Sub P (upd P a o) := sub_upd n
  refine ⟨⟨⟨F.wf.gh, fun b u e => F.wf.ph b u (sub b u e), fun b u e => F.wf.pg b u (sub b u e), fun b u e => F.wf.pf b u (sub b u e), F.wf.gf, F.wf.w⟩, F.len, F.dat, fun i d e => ?_, F.inj⟩, ⟨F.wf.pg a o upd_same, n, F.wf.pf a o upd_same⟩, fun i d e z => ?_, F.wf.ph a o upd_same⟩
  · obtain ⟨b, h1, h2, h3⟩ := F.own i d e
    refine ⟨b, h1, h2, h3.g, ?_, h3.f⟩
    cases q : P b with
    | none => rfl
    | some u => have := h3.p; rw [sub b u q] at this; cases this
  · obtain ⟨b, h1, _, h3⟩ := F.own i d e
    rw [h1] at z; cases z
    have := h3.p
    rw [upd_same] at this; cases this
theorem put_ok {P1 : Hp} {v : V} {r : Rv} {i : Nat} (F : Fr K T W P1 G Γ s σ H) (o : Ow K T G σ P P1 v r) (hr : ∀ i, r ≠ .slot i) : Fr K T W P G (putRv i r Γ) s (σ.set i (some v)) H := by
  cases o with
  | dat o => exact F.setDat o
  | slot o => exact absurd rfl (hr _)
  | @own a ob d n o =>
    obtain ⟨F', m, off, e⟩ := F.back n
    refine F'.setOwn (d := d) ?_ m off
    cases d with
    | lst ds =>
      obtain ⟨xs, q, r⟩ := o
      exact ⟨xs, by rw [e, q], r⟩
    | _ => exact o.elim
theorem Ow.slots {P1 : Hp} {v : V} {r : Rv} {σ' : L2.St} (o : Ow K T G σ P P1 v r) (hr : ∀ i, r ≠ .slot i) : Ow K T G σ' P P1 v r := by
  cases o with
  | dat o => exact .dat o
  | slot o => exact absurd rfl (hr _)
  | own n o => exact .own n o
end

section
variable {S : Type} {X : Cx} {T : Nat → Option Addr} {W : Wd S} {ea eb ec : Expr} {a b c : TEv S} {pos : Pos}
/-! ### isinstance -/
def tyNm : Bi → String
  | .isTuple => "tuple" | .isInt => "int" | .isBool => "bool" | .isStr => "str" | .isList => "list" | _ => ""
theorem DO.isi {P G H : Hp} {Γ : List Sl} {s : S} {σ : L2.St} {K : PySem.W.Frag} (F : Fr K T W P G Γ s σ H) {v : V} {d : D} {bi : Bi} {t : Bool} (h : DO K T G H v d) (e : d.isInst bi = some t) (hb : tyNm bi ≠ "") : ∃ u, TyX K H v u ∧ PySem.W.kitOne K u (.type (tyNm bi)) = some t := by
  have sub := F.wf.gh
  cases d with
  | non =>
    cases e
    exact ⟨_, by rw [h.non]; exact .base (.non), by cases bi <;> first | exact kit_ty (by decide +kernel) | exact (hb rfl).elim⟩
  | bl x =>
    cases e
    exact ⟨_, by rw [h.bl]; exact .base (.bl x), by cases bi <;> first | exact kit_ty (by decide +kernel) | exact (hb rfl).elim⟩
  | int x =>
    cases e
    exact ⟨_, by rw [h.int]; exact .base (.int x), by cases bi <;> first | exact kit_ty (by decide +kernel) | exact (hb rfl).elim⟩
  | str x =>
    cases e
    exact ⟨_, by rw [h.str]; exact .base (.str x), by cases bi <;> first | exact kit_ty (by decide +kernel) | exact (hb rfl).elim⟩
  | tup ds =>
    cases e
    obtain ⟨q, xs, rfl, hq, _⟩ := h.tup sub
    refine ⟨.type "tuple", ?_, by cases bi <;> first | exact kit_ty (by decide +kernel) | exact (hb rfl).elim⟩
    rcases hq with ⟨ob, hq, _⟩ | ⟨o, _, _, hq, hc, _⟩
    · exact .fTuple hq
    · exact .kTuple hq hc
  | lst ds =>
    cases e
    obtain ⟨q, xs, rfl, hq, _⟩ := h.lst sub
    exact ⟨.type "list", .base (.lst hq), by cases bi <;> first | exact kit_ty (by decide +kernel) | exact (hb rfl).elim⟩
  | _ => cases e
theorem de_isi {x : Str} {n : Str} {p p2 : Pos} (bi : Bi) (hb : tyNm bi ≠ "") (hg : Gl X x) (hm : X.mg x = none) (hv : bootBuiltins x = some (.builtin "isinstance")) (hg2 : Gl X n) (hm2 : X.mg n = none) (hv2 : bootBuiltins n = some (.type (tyNm bi))) (ha : DE X T W ea a)
    (hn : x ≠ "__name__" := by decide) (hdb : (x == ("__debug__" : Str)) = false := by decide) (hn2 : n ≠ "__name__" := by decide) (hdb2 : (n == ("__debug__" : Str)) = false := by decide)
    (he : starEach [ea, .Name n p2] X.env = (false, eval ea X.env) :: starEach [.Name n p2] X.env := by rfl) (he2 : starEach [.Name n p2] X.env = (false, eval (.Name n p2) X.env) :: starEach [] X.env := by rfl)
    (hpl : (backTo pos (starEach [.Name n p2] X.env)).any (·.1) = false := by rfl) : DE X T W (.Call (.Name x p) [ea, .Name n p2] [] pos) (eIsi bi a) :=
  (pe_callB call_isi hg hm hv (pa_cons ha (pa_cons (pe_bltn (v := .ty (tyNm bi)) hg2 hm2 hv2 rfl hn2 hdb2) pa_nil he2) he) hn hdb he hpl).weaken fun σ H Q ⟨P, G, Γ, s, F, h⟩ => by
    refine xE.opd F (M.weak h fun p s1 h v G1 H1 u1 F1 o1 => ?_)
    obtain ⟨x, dx, h⟩ := use_run F1 o1 h
    obtain ⟨t, e, h⟩ := opt_run h
    obtain ⟨u, ty, k⟩ := dx.isi F1 e hb
    exact ⟨v, .ty (tyNm bi), u, _, t, rfl, .ty _, ty, k, h _ G1 H1 u1 F1 (.dat (.bl _))⟩

/-! ### methods -/
theorem place_map (ds : List D) (d : D) : SeqAt.dataPlace (toPs ds) d.toP = place ds d := by
  unfold SeqAt.dataPlace place
  rw [toPs_map, List.findIdx?_map]
  rfl
theorem ok_parts {ds : List D} {d : D} (e : d = .tup ds ∨ d = .lst ds) (h : d.ok = true) : d.flat = true ∧ PyData.plainAll (toPs ds) = true := ⟨(D.ok_flat h).1, flats_of e (D.ok_flat h).1⟩
def mtN : Mt → Str
  | .index => "index" | .count => "count"
def mtL : Mt → String
  | .index => "list.index" | .count => "list.count"
def mtT : Mt → String
  | .index => "tuple.index" | .count => "tuple.count"
def rMtL (K : PySem.W.Frag) : Mt → V → List V → Hp → VK → Prop
  | .index => rIxM (fun x ds H => Dp K H x (.list ds)) K
  | .count => rCtM (fun x ds H => Dp K H x (.list ds)) K
def rMtT (K : PySem.W.Frag) : Mt → V → List V → Hp → VK → Prop
  | .index => rIxM (fun x ds H => Dp K H x (.tuple ds)) K
  | .count => rCtM (fun x ds H => Dp K H x (.tuple ds)) K
theorem rMtL_ok (hu : X.A.units + 64 < cLine) : ∀ m : Mt, MtR X (mtL m) (rMtL X.K m)
  | .index => mt_ixL hu
  | .count => mt_ctL hu
theorem rMtT_ok (hu : X.A.units + 64 < cLine) : ∀ m : Mt, MtR X (mtT m) (rMtT X.K m)
  | .index => mt_ixT hu
  | .count => mt_ctT hu
/-- a method of a list or a tuple -/
def tLM (K : PySem.W.Frag) (r r' : V → List V → Hp → VK → Prop) (to : TE) (t : TA) : TE := fun σ H Q => to σ H fun x H1 => (tyV K "list" x H1 ∧ t σ H1 fun xs H2 => r x xs H2 Q) ∨ ∃ a ys, x = .ref a ∧ TpT K H1 a ys ∧ t σ H1 fun xs H2 => r' x xs H2 Q
theorem pe_lm {o e : Expr} {es : List Expr} {to : TE} {t : TA} {name : Str} {apos cpos : Pos} {id id' : String} {r r' : V → List V → Hp → VK → Prop} (slot : Slot "list" name id) (hty : typeOf (.builtin id) = pure (.type "method_descriptor")) (hm : MtR X id r)
    (slot' : Slot "tuple" name id') (hty' : typeOf (.builtin id') = pure (.type "method_descriptor")) (hm' : MtR X id' r') (ho : PE X o to) (ha : PA X (e :: es) t)
    (hbase : attributeBase o name X.env (eval o X.env) = eval o X.env) (hline : (apos.endLine == cpos.line) = true)
    (hfew : ((backTo cpos (starEach (e :: es) X.env)).all (fun x => !x.1) && (backToKw cpos (keywordEach [] X.env)).all (fun x => x.1.isSome) && decide ((e :: es).length + ([] : List Keyword).length + (if ([] : List Keyword).isEmpty then 0 else 1) < 30)) = true)
    (hs : starEach (e :: es) X.env = (false, eval e X.env) :: starEach es X.env) (hplain : (backTo cpos (starEach es X.env)).any (·.1) = false) : PE X (.Call (.Attribute o name apos) (e :: es) [] cpos) (tLM X.K r r' to t) :=
  ⟨fun pins s σ H Q I h => wpAny_Call_method_late hbase hfew hline rfl (thn (ho.run pins s σ H _ I h) fun v s1 ⟨x, H1, J, r1, q⟩ => by
    rcases q with ⟨ty, q1⟩ | ⟨a, ys, e1, ty, q1⟩
    · obtain ⟨h1, h2⟩ := tyV_is J r1 ty
      refine ⟨"list", id, F.plainAttrs_list, slot, hty, h1, h2, ?_⟩
      have hA := ha.run cpos pins s1 σ H1 _ J q1
      rw [hs] at hA ⊢
      refine Calls.callWith_builtin (show (false || (backTo cpos (starEach es X.env)).any (·.1)) = false from hplain) (Calls.evalArgs_plain (thn hA fun us s2 ⟨vs, H2, J2, r2, q2⟩ => ?_))
      exact hm pins s2 σ H2 x vs v us Q J2 r1 r2 q2
    · subst e1
      cases r1
      obtain ⟨its, _, ht, _, ob, h1, h2⟩ := ty.bare J
      refine ⟨"tuple", id', F.plainAttrs_tuple, slot', hty', ht.typeIs, (fun b z => by cases z; exact ⟨ob, h1, h2⟩), ?_⟩
      have hA := ha.run cpos pins s1 σ H1 _ J q1
      rw [hs] at hA ⊢
      refine Calls.callWith_builtin (show (false || (backTo cpos (starEach es X.env)).any (·.1)) = false from hplain) (Calls.evalArgs_plain (thn hA fun us s2 ⟨vs, H2, J2, r2, q2⟩ => ?_))
      exact hm' pins s2 σ H2 (.ref a) vs (.ref a) us Q J2 rfl r2 q2)⟩
theorem de_meth {nm : Str} {apos : Pos} (m : Mt) (hu : X.A.units + 64 < cLine) (slot : Slot "list" nm (mtL m)) (hty : typeOf (.builtin (mtL m)) = pure (.type "method_descriptor")) (slot' : Slot "tuple" nm (mtT m)) (hty' : typeOf (.builtin (mtT m)) = pure (.type "method_descriptor"))
    (ha : DE X T W ea a) (hb : DE X T W eb b) (hbase : attributeBase ea nm X.env (eval ea X.env) = eval ea X.env := by rfl) (hline : (apos.endLine == pos.line) = true := by rfl)
    (hfew : ((backTo pos (starEach [eb] X.env)).all (fun x => !x.1) && (backToKw pos (keywordEach [] X.env)).all (fun x => x.1.isSome) && decide ([eb].length + ([] : List Keyword).length + (if ([] : List Keyword).isEmpty then 0 else 1) < 30)) = true := by rfl)
    (hs : starEach [eb] X.env = (false, eval eb X.env) :: starEach [] X.env := by rfl) (hplain : (backTo pos (starEach [] X.env)).any (·.1) = false := by rfl) : DE X T W (.Call (.Attribute ea nm apos) [eb] [] pos) (eMeth m a b) :=
  (pe_lm slot hty (rMtL_ok hu m) slot' hty' (rMtT_ok hu m) ha (pa_cons hb pa_nil hs) hbase hline hfew hs hplain).weaken fun σ H Q ⟨P, G, Γ, s, F, h⟩ => by
    refine xE.opd F (M.weak h fun p s1 h v G1 H1 u1 F1 o1 => ?_)
    obtain ⟨x0, dx0, h⟩ := use_run F1 o1 h
    obtain ⟨h0, h⟩ := h
    have go : ∀ (L : Bool), (∀ x, sameSeq x0 x = true → (if L then ∃ ds, x = .lst ds else ∃ ds, x = .tup ds)) → xE X.K T W b σ H1 (fun w H2 => if L then rMtL X.K m v [w] H2 Q else rMtT X.K m v [w] H2 Q) := fun L hL => by
      refine xE.opd F1 (M.weak h fun q s2 h w G2 H2 u2 F2 o2 => ?_)
      obtain ⟨x, dx, h⟩ := use_run F2 (o1.mono u2) h
      obtain ⟨y, dy, h⟩ := use_run F2 o2 h
      obtain ⟨hss, h⟩ := h
      have hk := hL x hss
      have sub := F2.wf.gh
      have fin : ∀ r, (∀ v' G' H', Sub G G' → Fr X.K T W P G' q.2 s2 σ H' → RR X.K T W P G' q.2 s2 σ H' v' (.dat r) → Q v' H') → Kont X.K T W P G2 q.2 s2 σ Q (.dat r) := fun r k => kont (u1.trans u2) k
      cases L with
      | true =>
        obtain ⟨ds, rfl⟩ := hk
        show rMtL X.K m v [w] H2 Q
        cases m with
        | index =>
          obtain ⟨⟨k1, k2⟩, h⟩ := h
          obtain ⟨j, e, h⟩ := opt_run h
          have z := dx.dp sub (D.ok_flat k1).1
          rw [D.toP] at z
          exact ⟨w, y.toP, toPs ds, j, rfl, z, dy.dp sub (D.ok_flat k2).1, flats_of (.inr rfl) (D.ok_flat k1).1, flat_plain _ (D.ok_flat k2).1, (D.ok_flat k2).2, (place_map ds y).trans e, (fin _ h).dat F2 (.int _)⟩
        | count =>
          obtain ⟨⟨k1, k2⟩, h⟩ := h
          have z := dx.dp sub (D.ok_flat k1).1
          rw [D.toP] at z
          refine ⟨w, y.toP, toPs ds, rfl, z, dy.dp sub (D.ok_flat k2).1, flats_of (.inr rfl) (D.ok_flat k1).1, flat_plain _ (D.ok_flat k2).1, (D.ok_flat k2).2, ?_⟩
          rw [toPs_count]
          exact (fin _ h).dat F2 (.int _)
      | false =>
        obtain ⟨ds, rfl⟩ := hk
        show rMtT X.K m v [w] H2 Q
        cases m with
        | index =>
          obtain ⟨⟨k1, k2⟩, h⟩ := h
          obtain ⟨j, e, h⟩ := opt_run h
          have z := dx.dp sub (D.ok_flat k1).1
          rw [D.toP] at z
          exact ⟨w, y.toP, toPs ds, j, rfl, z, dy.dp sub (D.ok_flat k2).1, flats_of (.inl rfl) (D.ok_flat k1).1, flat_plain _ (D.ok_flat k2).1, (D.ok_flat k2).2, (place_map ds y).trans e, (fin _ h).dat F2 (.int _)⟩
        | count =>
          obtain ⟨⟨k1, k2⟩, h⟩ := h
          have z := dx.dp sub (D.ok_flat k1).1
          rw [D.toP] at z
          refine ⟨w, y.toP, toPs ds, rfl, z, dy.dp sub (D.ok_flat k2).1, flats_of (.inl rfl) (D.ok_flat k1).1, flat_plain _ (D.ok_flat k2).1, (D.ok_flat k2).2, ?_⟩
          rw [toPs_count]
          exact (fin _ h).dat F2 (.int _)
    cases x0 with
    | lst ds0 =>
      obtain ⟨a0, xs0, e0, h0, _⟩ := dx0.lst F1.wf.gh
      refine .inl ⟨by rw [e0]; exact .inl ⟨rfl, xs0, SqL.of h0⟩, go true fun x e => ?_⟩
      cases x <;> first | exact ⟨_, rfl⟩ | cases e
    | tup ds0 =>
      obtain ⟨a0, xs0, e0, h0, _⟩ := dx0.tup F1.wf.gh
      refine .inr ⟨a0, xs0, e0, h0, go false fun x e => ?_⟩
      cases x <;> first | exact ⟨_, rfl⟩ | cases e
    | _ =>
      cases h0
/-! ### the list in a slot -/
theorem de_app {i : Nat} {x : Str} {apos p2 : Pos} (hN : X.N[i]? = some x) (hv : Vis X.env.scope x) (ha : DE X T W ea a) (hd : (x == ("__debug__" : Str)) = false := by decide) (hcd : (x == ("__classdict__" : Str)) = false := by decide)
    (hbase : attributeBase (.Name x p2) "append" X.env (eval (.Name x p2) X.env) = eval (.Name x p2) X.env := by rfl) (hline : (apos.endLine == pos.line) = true := by rfl)
    (hfew : ((backTo pos (starEach [ea] X.env)).all (fun x => !x.1) && (backToKw pos (keywordEach [] X.env)).all (fun x => x.1.isSome) && decide ([ea].length + ([] : List Keyword).length + (if ([] : List Keyword).isEmpty then 0 else 1) < 30)) = true := by rfl)
    (hs : starEach [ea] X.env = (false, eval ea X.env) :: starEach [] X.env := by rfl) (hplain : (backTo pos (starEach [] X.env)).any (·.1) = false := by rfl) : DE X T W (.Call (.Attribute (.Name x p2) "append" apos) [ea] [] pos) (eApp i a) :=
  (pe_bm F.plainAttrs_list F.slot_list_append F.type_list_append mt_append (pe_var hN hv hd hcd) (pa_cons ha pa_nil hs) hbase hfew hline hs hplain).weaken fun σ H Q ⟨P, G, Γ, s, F, h⟩ => by
    obtain ⟨_, l, xs0, e0, hσ, hl, _, _, h⟩ := ownL_run F h
    refine ⟨.ref l, hσ, .inl ⟨rfl, xs0, SqL.of hl⟩, ?_⟩
    refine xE.opd F (M.weak h fun p s1 h v G1 H1 u1 F1 o1 => ?_)
    obtain ⟨d, Γ', G2, u2, F2, dr, h⟩ := frz_run F1 o1 h
    obtain ⟨ds, l', xs, e1, hσ', hl', r, m, hz, h⟩ := ownL_run F2 h
    rw [hσ] at hσ'; cases hσ'
    exact ⟨l, xs, v, rfl, rfl, hl', by rw [r.length]; exact size_lt (by omega), h _ G2 _ (u1.trans u2) (F2.put e1 hσ (r.append (.cons dr .nil))) (.dat .non)⟩
theorem de_ext {i : Nat} {x : Str} {apos p2 : Pos} (hN : X.N[i]? = some x) (hv : Vis X.env.scope x) (ha : DE X T W ea a) (hd : (x == ("__debug__" : Str)) = false := by decide) (hcd : (x == ("__classdict__" : Str)) = false := by decide)
    (hbase : attributeBase (.Name x p2) "extend" X.env (eval (.Name x p2) X.env) = eval (.Name x p2) X.env := by rfl) (hline : (apos.endLine == pos.line) = true := by rfl)
    (hfew : ((backTo pos (starEach [ea] X.env)).all (fun x => !x.1) && (backToKw pos (keywordEach [] X.env)).all (fun x => x.1.isSome) && decide ([ea].length + ([] : List Keyword).length + (if ([] : List Keyword).isEmpty then 0 else 1) < 30)) = true := by rfl)
    (hs : starEach [ea] X.env = (false, eval ea X.env) :: starEach [] X.env := by rfl) (hplain : (backTo pos (starEach [] X.env)).any (·.1) = false := by rfl) : DE X T W (.Call (.Attribute (.Name x p2) "extend" apos) [ea] [] pos) (eExt i a) :=
  (pe_bm F.plainAttrs_list F.slot_list_extend F.type_list_extend mt_extend (pe_var hN hv hd hcd) (pa_cons ha pa_nil hs) hbase hfew hline hs hplain).weaken fun σ H Q ⟨P, G, Γ, s, F, h⟩ => by
    obtain ⟨_, l, xs0, e0, hσ, hl, _, _, h⟩ := ownL_run F h
    refine ⟨.ref l, hσ, .inl ⟨rfl, xs0, SqL.of hl⟩, ?_⟩
    refine xE.opd F (M.weak h fun p s1 h v G1 H1 u1 F1 o1 => ?_)
    obtain ⟨d, Γ', G2, u2, F2, dr, h⟩ := frz_run F1 o1 h
    obtain ⟨ds, l', xs, e1, hσ', hl', r, m, h⟩ := ownL_run F2 h
    rw [hσ] at hσ'; cases hσ'
    cases dr with
    | @lst b ys es hb rb =>
      obtain ⟨⟨z1, z2⟩, h⟩ := h
      exact ⟨l, b, xs, ys, rfl, rfl, hl', F2.wf.gh b _ hb, by rw [r.length, rb.length]; exact size_ok (by omega), h _ G2 _ (u1.trans u2) (F2.put e1 hσ (r.append rb)) (.dat .non)⟩
    | _ => exact h.elim
theorem DRs.dropLast {K : PySem.W.Frag} {G : Hp} : ∀ {vs : List V} {ds : List D}, DRs K T G vs ds → DRs K T G vs.dropLast ds.dropLast
  | _, _, .nil => .nil
  | _, _, .cons h .nil => .nil
  | _, _, .cons h (.cons h' r) => .cons h (DRs.dropLast (.cons h' r))
theorem de_pop {i : Nat} {x : Str} {apos p2 : Pos} (hN : X.N[i]? = some x) (hv : Vis X.env.scope x) (hd : (x == ("__debug__" : Str)) = false := by decide) (hcd : (x == ("__classdict__" : Str)) = false := by decide)
    (hbase : attributeBase (.Name x p2) "pop" X.env (eval (.Name x p2) X.env) = eval (.Name x p2) X.env := by rfl) (hline : (apos.endLine == pos.line) = true := by rfl) : DE X T W (.Call (.Attribute (.Name x p2) "pop" apos) [] [] pos) (ePop i) :=
  (pe_bm0 F.plainAttrs_list F.slot_list_pop F.type_list_pop mt_pop (pe_var hN hv hd hcd) hbase hline).weaken fun σ H Q ⟨P, G, Γ, s, F, h⟩ => by
    obtain ⟨ds, l, xs, e0, hσ, hl, r, _, h⟩ := ownL_run F h
    obtain ⟨d, e, h⟩ := opt_run h
    rw [← r.length] at e
    obtain ⟨v, e', dv⟩ := r.get e
    exact ⟨.ref l, hσ, .inl ⟨rfl, xs, SqL.of hl⟩, l, xs, v, rfl, rfl, hl, e', h _ G _ (Sub.refl _) (F.put e0 hσ r.dropLast) (.dat dv)⟩
theorem de_popAt {i : Nat} {x : Str} {apos p2 : Pos} (hN : X.N[i]? = some x) (hv : Vis X.env.scope x) (ha : DE X T W ea a) (hd : (x == ("__debug__" : Str)) = false := by decide) (hcd : (x == ("__classdict__" : Str)) = false := by decide)
    (hbase : attributeBase (.Name x p2) "pop" X.env (eval (.Name x p2) X.env) = eval (.Name x p2) X.env := by rfl) (hline : (apos.endLine == pos.line) = true := by rfl)
    (hfew : ((backTo pos (starEach [ea] X.env)).all (fun x => !x.1) && (backToKw pos (keywordEach [] X.env)).all (fun x => x.1.isSome) && decide ([ea].length + ([] : List Keyword).length + (if ([] : List Keyword).isEmpty then 0 else 1) < 30)) = true := by rfl)
    (hs : starEach [ea] X.env = (false, eval ea X.env) :: starEach [] X.env := by rfl) (hplain : (backTo pos (starEach [] X.env)).any (·.1) = false := by rfl) : DE X T W (.Call (.Attribute (.Name x p2) "pop" apos) [ea] [] pos) (ePopAt i a) :=
  (pe_bm F.plainAttrs_list F.slot_list_pop F.type_list_pop mt_popAt (pe_var hN hv hd hcd) (pa_cons ha pa_nil hs) hbase hfew hline hs hplain).weaken fun σ H Q ⟨P, G, Γ, s, F, h⟩ => by
    obtain ⟨_, l, xs0, e0, hσ, hl, _, _, h⟩ := ownL_run F h
    refine ⟨.ref l, hσ, .inl ⟨rfl, xs0, SqL.of hl⟩, ?_⟩
    refine xE.opd F (M.weak h fun p s1 h v G1 H1 u1 F1 o1 => ?_)
    obtain ⟨x, dx, h⟩ := use_run F1 o1 h
    obtain ⟨j, rfl, h⟩ := isI_run h
    obtain ⟨ds, l', xs, e1, hσ', hl', r, m, ⟨j0, j1⟩, h⟩ := ownL_run F1 h
    rw [hσ] at hσ'; cases hσ'
    obtain ⟨d, e, h⟩ := opt_run h
    obtain ⟨w, e', dw⟩ := r.get e
    have hlt : j.toNat < xs.length := (List.getElem?_eq_some_iff.mp e').1
    exact ⟨l, xs, j, j.toNat, w, rfl, by rw [dx.int], hl', by omega, by omega, seqIndex_of j0 (by omega), e', h _ G1 _ u1 (F1.put e1 hσ (r.eraseIdx _)) (.dat dw)⟩

/-! ### statements -/
variable (X T W) in
/-- how a statement ends -/
def FlK (P G : Hp) (D0 : Ends) (s : S) : Fl → Prop
  | .nx Γ => ∀ σ G' H', Sub G G' → Fr X.K T W P G' Γ s σ H' → D0.nx σ H'
  | .bk Γ => ∀ σ G' H', Sub G G' → Fr X.K T W P G' Γ s σ H' → D0.bk σ H'
  | .ct Γ => ∀ σ G' H', Sub G G' → Fr X.K T W P G' Γ s σ H' → D0.ct σ H'
  | .rt d => ∀ v G' H', Sub G G' → Wf W P G' s H' → DR X.K T G' v d → D0.rt v H'
variable (X T W) in
def xS (m : TSv S) : TS := fun D0 σ H => ∃ P G Γ s, Fr X.K T W P G Γ s σ H ∧ (m Γ).run s (fun f s' => FlK X T W P G D0 s' f) noX
variable (X T W) in
abbrev DS (e : Stmt) (m : TSv S) : Prop := PS X e (xS X T W m)
variable (X T W) in
abbrev DSs (e : List Stmt) (m : TSv S) : Prop := PSs X e (xS X T W m)
theorem FlK.mono {P G G' : Hp} {D0 : Ends} {s : S} {f : Fl} (u : Sub G G') (h : FlK X T W P G D0 s f) : FlK X T W P G' D0 s f := by
  cases f with
  | nx Γ => exact fun σ G2 H2 u2 => h σ G2 H2 (u.trans u2)
  | bk Γ => exact fun σ G2 H2 u2 => h σ G2 H2 (u.trans u2)
  | ct Γ => exact fun σ G2 H2 u2 => h σ G2 H2 (u.trans u2)
  | rt d => exact fun v G2 H2 u2 => h v G2 H2 (u.trans u2)
theorem xS.by {P G H : Hp} {Γ : List Sl} {s : S} {σ : L2.St} {m : TSv S} {D0 : Ends} (F : Fr X.K T W P G Γ s σ H) (h : (m Γ).run s (fun f s' => FlK X T W P G D0 s' f) noX) : xS X T W m D0 σ H := ⟨P, G, Γ, s, F, h⟩
variable {st : Stmt} {rest : List Stmt} {m n : TSv S}
theorem ds_nil : DSs X T W [] (cNil : TSv S) := pss_nil.weaken fun D0 σ H ⟨P, G, Γ, s, F, h⟩ => h σ G H (Sub.refl _) F
theorem ds_cons (h1 : DS X T W st m) (h2 : DSs X T W rest n) : DSs X T W (st :: rest) (cCons m n) := (pss_cons h1 h2).weaken fun D0 σ H ⟨P, G, Γ, s, F, h⟩ => by
  refine xS.by F (M.weak h fun f s1 h => ?_)
  cases f with
  | nx Γ1 => exact fun σ1 G1 H1 u1 F1 => xS.by F1 (M.weak h fun f s2 h => h.mono u1)
  | bk Γ1 => exact h
  | ct Γ1 => exact h
  | rt d => exact h
theorem ds_pass : DS X T W (.Pass pos) (cPass : TSv S) := ps_pass.weaken fun D0 σ H ⟨P, G, Γ, s, F, h⟩ => h σ G H (Sub.refl _) F
theorem ds_brk : DS X T W (.Break pos) (cBrk : TSv S) := ps_break.weaken fun D0 σ H ⟨P, G, Γ, s, F, h⟩ => h σ G H (Sub.refl _) F
theorem ds_cont : DS X T W (.Continue pos) (cCont : TSv S) := ps_continue.weaken fun D0 σ H ⟨P, G, Γ, s, F, h⟩ => h σ G H (Sub.refl _) F
theorem ds_never : DS X T W st (cNever : TSv S) := ps_never.weaken fun D0 σ H ⟨P, G, Γ, s, F, h⟩ => h.elim
theorem ds_drop (ha : DE X T W ea a) (hs : swapsWith ea none pos.line X.env = pure false := by rfl) : DS X T W (.Expr ea pos) (cDrop a) := (ps_expr ha hs).weaken fun D0 σ H ⟨P, G, Γ, s, F, h⟩ => xE.opd F (M.weak h fun p s1 h v G1 H1 u1 F1 o1 => h σ G1 H1 u1 F1)
theorem ds_ret (ha : DE X T W ea a) : DS X T W (.Return (some ea) pos) (cRet a) := (ps_ret ha).weaken fun D0 σ H ⟨P, G, Γ, s, F, h⟩ => xE.opd F (M.weak h fun p s1 h v G1 H1 u1 F1 o1 => by
  obtain ⟨d, Γ', G2, u2, F2, dr, h⟩ := frz_run F1 o1 h
  exact h v G2 H1 (u1.trans u2) F2.wf dr)
theorem ds_retN : DS X T W (.Return none pos) (cRetN : TSv S) := ps_retN.weaken fun D0 σ H ⟨P, G, Γ, s, F, h⟩ => h .non G H (Sub.refl _) F.wf .non
theorem ds_if {ta : TTv S} {sa sb : List Stmt} (hc : DT X T W ec ta) (ha : DSs X T W sa m) (hb : DSs X T W sb n) : DS X T W (.If ec sa sb pos) (cIf ta m n) := (ps_if hc ha hb).weaken fun D0 σ H ⟨P, G, Γ, s, F, h⟩ => by
  refine xT.by F (M.weak h fun p s1 h G1 H1 u1 F1 => ?_)
  cases e : p.1 with
  | true =>
    rw [if_pos rfl]
    exact xS.by F1 (M.weak (h.1 e) fun f s2 h => h.mono u1)
  | false =>
    rw [if_neg (by decide)]
    exact xS.by F1 (M.weak (h.2 e) fun f s2 h => h.mono u1)
theorem le_set {i : Nat} {D0 : Ends} {σ : L2.St} {H : Hp} : xS X T W (cSet i a) D0 σ H → tAsg (xE X.K T W a) (gName i) D0 σ H := fun ⟨P, G, Γ, s, F, h⟩ => by
  refine xE.by F (M.weak h fun p s1 h v G1 H1 u1 F1 r1 => ?_)
  obtain ⟨P1, F1', o1⟩ := Ow.of F1 r1
  obtain ⟨r', Γ', G2, u2, F2, o2, hr, h⟩ := fix_run F1' o1 h
  exact h _ G2 H1 (u1.trans u2) (put_ok F2 o2 hr)
theorem ds_set {i : Nat} {x : Str} {pos' : Pos} (hN : X.N.Nodup) (hi : X.N[i]? = some x) (hx : Loc X.env.scope x) (hfn : X.fn x = true ∨ X.env.scope.names.lookup x = some .local) (ha : DE X T W ea a) (hs : swapsWith ea (some (.Name x pos')) pos.line X.env = pure false := by rfl) : DS X T W (.Assign [.Name x pos'] ea pos) (cSet i a) :=
  (ps_set hN hi hx ha hs hfn).weaken fun D0 σ H h => le_set h
theorem ds_par {i j : Nat} {x y : Str} {px py pt : Pos} {kt k2 pt2} (hc : X.calm = true) (hN : X.N.Nodup) (hi : X.N[i]? = some x) (hj : X.N[j]? = some y) (hij : i ≠ j) (hx : X.env.scope.names.lookup x = some .local) (hy : X.env.scope.names.lookup y = some .local) (ha : DE X T W ea a) (hb : DE X T W eb b)
    (hw : swappedStores [.Tuple [.Name x px, .Name y py] kt pt] (.Tuple [ea, eb] k2 pt2) X.env = pure (some [x, y])) (hs : swapsWithSole [.Tuple [.Name x px, .Name y py] kt pt] (.Tuple [ea, eb] k2 pt2) pos.line X.env = pure false := by rfl)
    (h1 : starEach [ea, eb] X.env = (false, eval ea X.env) :: starEach [eb] X.env := by rfl) (h2 : starEach [eb] X.env = (false, eval eb X.env) :: starEach [] X.env := by rfl) : DS X T W (.Assign [.Tuple [.Name x px, .Name y py] kt pt] (.Tuple [ea, eb] k2 pt2) pos) (cPar i j a b) :=
  (ps_par hc hN hi hj hij hx hy (pa_cons ha (pa_cons hb pa_nil h2) h1) hw hs).weaken fun D0 σ H ⟨P, G, Γ, s, F, h⟩ => by
    refine xE.by F (M.weak h fun p s1 h v G1 H1 u1 F1 r1 => ?_)
    obtain ⟨P1, F1', o1⟩ := Ow.of F1 r1
    refine xE.by F1' (M.weak h fun q s2 h w G2 H2 u2 F2 r2 => ?_)
    obtain ⟨P2, F2', o2⟩ := Ow.of F2 r2
    obtain ⟨ra, Γa, Ga, ua, Fa, oa, na, h⟩ := fix_run F2' (o1.mono u2) h
    obtain ⟨rb, Γb, Gb, ub, Fb, ob, nb, h⟩ := fix_run Fa (o2.mono ua) h
    refine ⟨v, w, rfl, ?_⟩
    rw [List.set_comm _ _ hij]
    exact h _ Gb H2 ((u1.trans u2).trans (ua.trans ub)) (put_ok (put_ok Fb ob nb) ((oa.mono ub).slots na) na)
theorem ds_par3 {i j l : Nat} {x y z : Str} {px py pz pt : Pos} {kt k2 pt2} (hc : X.calm = true) (hN : X.N.Nodup) (hi : X.N[i]? = some x) (hj : X.N[j]? = some y) (hl : X.N[l]? = some z) (hij : i ≠ j) (hil : i ≠ l) (hjl : j ≠ l)
    (hx : X.env.scope.names.lookup x = some .local) (hy : X.env.scope.names.lookup y = some .local) (hz : X.env.scope.names.lookup z = some .local) (ha : DE X T W ea a) (hb : DE X T W eb b) (hd : DE X T W ec c)
    (hw : swappedStores [.Tuple [.Name x px, .Name y py, .Name z pz] kt pt] (.Tuple [ea, eb, ec] k2 pt2) X.env = pure (some [x, y, z])) (hs : swapsWithSole [.Tuple [.Name x px, .Name y py, .Name z pz] kt pt] (.Tuple [ea, eb, ec] k2 pt2) pos.line X.env = pure false := by rfl)
    (h1 : starEach [ea, eb, ec] X.env = (false, eval ea X.env) :: starEach [eb, ec] X.env := by rfl) (h2 : starEach [eb, ec] X.env = (false, eval eb X.env) :: starEach [ec] X.env := by rfl) (h3 : starEach [ec] X.env = (false, eval ec X.env) :: starEach [] X.env := by rfl) :
    DS X T W (.Assign [.Tuple [.Name x px, .Name y py, .Name z pz] kt pt] (.Tuple [ea, eb, ec] k2 pt2) pos) (cPar3 i j l a b c) :=
  (ps_par3 hc hN hi hj hl hij hil hjl hx hy hz (pa_cons ha (pa_cons hb (pa_cons hd pa_nil h3) h2) h1) hw hs).weaken fun D0 σ H ⟨P, G, Γ, s, F, h⟩ => by
    refine xE.by F (M.weak h fun p s1 h v G1 H1 u1 F1 r1 => ?_)
    obtain ⟨P1, F1', o1⟩ := Ow.of F1 r1
    refine xE.by F1' (M.weak h fun q s2 h w G2 H2 u2 F2 r2 => ?_)
    obtain ⟨P2, F2', o2⟩ := Ow.of F2 r2
    refine xE.by F2' (M.weak h fun q3 s3 h w3 G3 H3 u3 F3 r3 => ?_)
    obtain ⟨P3, F3', o3⟩ := Ow.of F3 r3
    obtain ⟨ra, Γa, Ga, ua, Fa, oa, na, h⟩ := fix_run F3' (o1.mono (u2.trans u3)) h
    obtain ⟨rb, Γb, Gb, ub, Fb, ob, nb, h⟩ := fix_run Fa (o2.mono (u3.trans ua)) h
    obtain ⟨rc, Γc, Gc, uc, Fc, oc, nc, h⟩ := fix_run Fb (o3.mono (ua.trans ub)) h
    refine ⟨v, w, w3, rfl, ?_⟩
    have e : ((σ.set i (some v)).set j (some w)).set l (some w3) = ((σ.set l (some w3)).set j (some w)).set i (some v) := by
      rw [List.set_comm _ _ hij, List.set_comm _ _ hil, List.set_comm _ _ hjl]
    rw [e]
    exact h _ Gc H3 (((u1.trans u2).trans u3).trans ((ua.trans ub).trans uc)) (put_ok (put_ok (put_ok Fc oc nc) ((ob.mono uc).slots nb) nb) ((oa.mono (ub.trans uc)).slots na) na)
end
end Ev
/-! from E6.lean -/
set_option maxRecDepth 100000
set_option maxHeartbeats 4000000
/-! Ev, part 6: targets, stores, loops, comprehensions. -/
namespace Ev
open PySem PySem.Spec PyProof.Rows L2

section
variable {S : Type} {X : Cx} {T : Nat → Option Addr} {W : Wd S} {ea eb ec : Expr} {a b c : TEv S} {pos : Pos} {m : TSv S}
/-! ### targets -/
def tgOf (K : PySem.W.Frag) : IG → TG
  | .name i => gName i
  | .pair a b => gTup K 2 (gCons (tgOf K a) (gCons (tgOf K b) gNil))
  | .three a b c => gTup K 3 (gCons (tgOf K a) (gCons (tgOf K b) (gCons (tgOf K c) gNil)))
  | .four a b c d => gTup K 4 (gCons (tgOf K a) (gCons (tgOf K b) (gCons (tgOf K c) (gCons (tgOf K d) gNil))))
variable (X) in
/-- a target of the text -/
def DG (e : Expr) (g : IG) : Prop := PG X e (tgOf X.K g)
theorem dg_name {i : Nat} {x : Str} (hN : X.N.Nodup) (hi : X.N[i]? = some x) (hx : Loc X.env.scope x) (hf : X.fn x = true ∨ X.env.scope.names.lookup x = some .local) : DG X (.Name x pos) (.name i) := pg_name hN hi hx hf
theorem dg_pair {k : Nat} {g1 g2 : IG} (hc : X.calm = true) (h1 : DG X ea g1) (h2 : DG X eb g2) (s1 : (assignEach [ea, eb] X.env).map (·.2) = assign ea X.env :: (assignEach [eb] X.env).map (·.2) := by rfl) (s2 : (assignEach [eb] X.env).map (·.2) = assign eb X.env :: (assignEach [] X.env).map (·.2) := by rfl)
    (hn : (assignEach [ea, eb] X.env).length = 2 := by rfl) (hst : (assignEach [ea, eb] X.env).findIdx? (·.1) = none := by rfl) : DG X (.Tuple [ea, eb] k pos) (.pair g1 g2) := pg_tup hc (pgs_cons h1 (pgs_cons h2 pgs_nil s2) s1) hn hst
theorem dg_three {k : Nat} {g1 g2 g3 : IG} (hc : X.calm = true) (h1 : DG X ea g1) (h2 : DG X eb g2) (h3 : DG X ec g3) (s1 : (assignEach [ea, eb, ec] X.env).map (·.2) = assign ea X.env :: (assignEach [eb, ec] X.env).map (·.2) := by rfl) (s2 : (assignEach [eb, ec] X.env).map (·.2) = assign eb X.env :: (assignEach [ec] X.env).map (·.2) := by rfl)
    (s3 : (assignEach [ec] X.env).map (·.2) = assign ec X.env :: (assignEach [] X.env).map (·.2) := by rfl) (hn : (assignEach [ea, eb, ec] X.env).length = 3 := by rfl) (hst : (assignEach [ea, eb, ec] X.env).findIdx? (·.1) = none := by rfl) : DG X (.Tuple [ea, eb, ec] k pos) (.three g1 g2 g3) := pg_tup hc (pgs_cons h1 (pgs_cons h2 (pgs_cons h3 pgs_nil s3) s2) s1) hn hst
theorem dg_four {k : Nat} {ed : Expr} {g1 g2 g3 g4 : IG} (hc : X.calm = true) (h1 : DG X ea g1) (h2 : DG X eb g2) (h3 : DG X ec g3) (h4 : DG X ed g4) (s1 : (assignEach [ea, eb, ec, ed] X.env).map (·.2) = assign ea X.env :: (assignEach [eb, ec, ed] X.env).map (·.2) := by rfl)
    (s2 : (assignEach [eb, ec, ed] X.env).map (·.2) = assign eb X.env :: (assignEach [ec, ed] X.env).map (·.2) := by rfl) (s3 : (assignEach [ec, ed] X.env).map (·.2) = assign ec X.env :: (assignEach [ed] X.env).map (·.2) := by rfl) (s4 : (assignEach [ed] X.env).map (·.2) = assign ed X.env :: (assignEach [] X.env).map (·.2) := by rfl)
    (hn : (assignEach [ea, eb, ec, ed] X.env).length = 4 := by rfl) (hst : (assignEach [ea, eb, ec, ed] X.env).findIdx? (·.1) = none := by rfl) : DG X (.Tuple [ea, eb, ec, ed] k pos) (.four g1 g2 g3 g4) := pg_tup hc (pgs_cons h1 (pgs_cons h2 (pgs_cons h3 (pgs_cons h4 pgs_nil s4) s3) s2) s1) hn hst
theorem DRs.inv1 {K : PySem.W.Frag} {G : Hp} {xs : List V} {d : D} {ds : List D} (h : DRs K T G xs (d :: ds)) : ∃ v vs, xs = v :: vs ∧ DR K T G v d ∧ DRs K T G vs ds := by
  cases h with
  | cons h r => exact ⟨_, _, rfl, h, r⟩
theorem DRs.inv0 {K : PySem.W.Frag} {G : Hp} {xs : List V} (h : DRs K T G xs []) : xs = [] := by cases h; rfl
/-- the slots' values outside vs are the same -/
def SameBut (vs : List Nat) (σ σ' : L2.St) : Prop := ∀ us : List Nat, (∀ i ∈ vs, i ∈ us) → wipe σ' us = wipe σ us
theorem wipe_set {i : Nat} {v : Option V} : ∀ {us : List Nat} {σ : L2.St}, i ∈ us → wipe (σ.set i v) us = wipe σ us
  | u :: us, σ, h => by
    unfold wipe
    by_cases hu : i ∈ us
    · rw [wipe_set hu]
    · have e : i = u := by
        rcases List.mem_cons.mp h with e | e
        · exact e
        · exact absurd e hu
      subst e
      have : ∀ (us : List Nat) (σ : L2.St), i ∉ us → wipe (σ.set i v) us = (wipe σ us).set i v := fun us => by
        induction us with
        | nil => exact fun _ _ => rfl
        | cons w us ih =>
          intro σ hn
          have n1 : i ≠ w := fun z => hn (z ▸ List.mem_cons_self)
          unfold wipe
          rw [ih σ fun z => hn (List.mem_cons_of_mem _ z), List.set_comm _ _ n1]
      rw [this us σ hu, List.set_set]
theorem SameBut.trans {vs ws : List Nat} {σ σ' σ'' : L2.St} (a : SameBut vs σ σ') (b : SameBut ws σ' σ'') : SameBut (vs ++ ws) σ σ'' := fun us h => (b us fun i hi => h i (List.mem_append_right _ hi)).trans (a us fun i hi => h i (List.mem_append_left _ hi))
theorem set_ok {K : PySem.W.Frag} {P G H : Hp} {s : S} : ∀ {g : IG} {d : D} {v : V} {Γ Γ' : List Sl} {σ : L2.St} {Q : L2.St → Hp → Prop}, Fr K T W P G Γ s σ H → DR K T G v d → setG g d Γ = some Γ' → (∀ σ', Fr K T W P G Γ' s σ' H → SameBut g.slots σ σ' → Q σ' H) → tgOf K g v σ H Q
  | .name i, d, v, Γ, Γ', σ, Q, F, h, e, q => by
    cases e
    exact q _ (F.setDat h) fun us hu => wipe_set (hu i (List.mem_singleton.mpr rfl))
  | .pair g1 g2, .tup [x, y], v, Γ, Γ', σ, Q, F, h, e, q => by
    cases h with
    | @tup a xs _ ha r =>
      obtain ⟨v1, r1, rfl, d1, r⟩ := r.inv1
      obtain ⟨v2, r2, rfl, d2, r⟩ := r.inv1
      cases r.inv0
      unfold setG at e
      cases e1 : setG g1 x Γ with
      | none => rw [e1] at e; cases e
      | some Γ1 =>
        rw [e1] at e
        exact ⟨a, _, rfl, (Sub.tp F.wf.gh ha).sq, rfl, v1, _, rfl, set_ok F d1 e1 fun σ1 F1 b1 => ⟨v2, _, rfl, set_ok F1 d2 e fun σ2 F2 b2 => ⟨rfl, q _ F2 (b1.trans b2)⟩⟩⟩
  | .three g1 g2 g3, .tup [x, y, z], v, Γ, Γ', σ, Q, F, h, e, q => by
    cases h with
    | @tup a xs _ ha r =>
      obtain ⟨v1, r1, rfl, d1, r⟩ := r.inv1
      obtain ⟨v2, r2, rfl, d2, r⟩ := r.inv1
      obtain ⟨v3, r3, rfl, d3, r⟩ := r.inv1
      cases r.inv0
      unfold setG at e
      cases e1 : setG g1 x Γ with
      | none => rw [e1] at e; cases e
      | some Γ1 =>
        rw [e1] at e
        simp only at e
        cases e2 : setG g2 y Γ1 with
        | none => rw [e2] at e; cases e
        | some Γ2 =>
          rw [e2] at e
          exact ⟨a, _, rfl, (Sub.tp F.wf.gh ha).sq, rfl, v1, _, rfl, set_ok F d1 e1 fun σ1 F1 b1 => ⟨v2, _, rfl, set_ok F1 d2 e2 fun σ2 F2 b2 => ⟨v3, _, rfl, set_ok F2 d3 e fun σ3 F3 b3 => ⟨rfl, q _ F3 ((b1.trans b2).trans b3)⟩⟩⟩⟩
  | .four g1 g2 g3 g4, .tup [x, y, z, u], v, Γ, Γ', σ, Q, F, h, e, q => by
    cases h with
    | @tup a xs _ ha r =>
      obtain ⟨v1, r1, rfl, d1, r⟩ := r.inv1
      obtain ⟨v2, r2, rfl, d2, r⟩ := r.inv1
      obtain ⟨v3, r3, rfl, d3, r⟩ := r.inv1
      obtain ⟨v4, r4, rfl, d4, r⟩ := r.inv1
      cases r.inv0
      unfold setG at e
      cases e1 : setG g1 x Γ with
      | none => rw [e1] at e; cases e
      | some Γ1 =>
        rw [e1] at e
        simp only at e
        cases e2 : setG g2 y Γ1 with
        | none => rw [e2] at e; cases e
        | some Γ2 =>
          rw [e2] at e
          simp only at e
          cases e3 : setG g3 z Γ2 with
          | none => rw [e3] at e; cases e
          | some Γ3 =>
            rw [e3] at e
            exact ⟨a, _, rfl, (Sub.tp F.wf.gh ha).sq, rfl, v1, _, rfl, set_ok F d1 e1 fun σ1 F1 b1 => ⟨v2, _, rfl, set_ok F1 d2 e2 fun σ2 F2 b2 => ⟨v3, _, rfl, set_ok F2 d3 e3 fun σ3 F3 b3 => ⟨v4, _, rfl, set_ok F3 d4 e fun σ4 F4 b4 => ⟨rfl, q _ F4 (((b1.trans b2).trans b3).trans b4)⟩⟩⟩⟩⟩
theorem ds_unp {tg : Expr} {g : IG} (ha : DE X T W ea a) (hg : DG X tg g) (hs : swapsWithSole [tg] ea pos.line X.env = pure false := by rfl) (hw : swappedStores [tg] ea X.env = pure none := by rfl) (h1 : (assignEach [tg] X.env).map (·.2) = [assign tg X.env] := by rfl) : DS X T W (.Assign [tg] ea pos) (cUnp g a) :=
  (ps_asg ha hg hs hw h1).weaken fun D0 σ H ⟨P, G, Γ, s, F, h⟩ => by
    refine xE.opd F (M.weak h fun p s1 h v G1 H1 u1 F1 o1 => ?_)
    obtain ⟨d, Γ', G2, u2, F2, dr, h⟩ := frz_run F1 o1 h
    obtain ⟨Γ3, e, h⟩ := opt_run h
    exact set_ok F2 dr e fun σ' F3 _ => h σ' G2 H1 (u1.trans u2) F3

/-! ### stores -/
def rAug : Bo → R2
  | .add => rI0 fun i j => .int (i + j)
  | .sub => rI0 fun i j => .int (i - j)
  | .mul => rI CMul fun i j => .int (i * j)
  | .band => rI0 fun i j => .int (Builtin.bitAnd i j)
  | .bxor => rI0 fun i j => .int (Builtin.bitXor i j)
  | _ => fun _ _ _ _ => False
theorem rAug_ok : ∀ o : Bo, OpR X (inplaceOp (opOf o)) (rAug o)
  | .add => iop_add
  | .sub => iop_sub
  | .mul => iop_mul
  | .band => iop_and
  | .bxor => iop_xor
  | .fdiv => fun _ _ _ _ _ _ _ _ _ _ _ _ h => h.elim
  | .mod => fun _ _ _ _ _ _ _ _ _ _ _ _ h => h.elim
  | .pow => fun _ _ _ _ _ _ _ _ _ _ _ _ h => h.elim
  | .shr => fun _ _ _ _ _ _ _ _ _ _ _ _ h => h.elim
theorem aug_ok {o : Bo} {x y : Int} {s : S} {Qr : D → S → Prop} {H : Hp} {Q : VK} (h : (augOp o x y).run s Qr noX) (q : ∀ z, Qr (.int z) s → Q (.int z) H) : rAug o (.int x) (.int y) H Q := by
  cases o with
  | add => exact ⟨x, y, rfl, rfl, q _ h⟩
  | sub => exact ⟨x, y, rfl, rfl, q _ h⟩
  | mul => exact ⟨x, y, rfl, rfl, h.1, q _ h.2⟩
  | band => exact ⟨x, y, rfl, rfl, q _ h⟩
  | bxor => exact ⟨x, y, rfl, rfl, q _ h⟩
  | _ => exact h.elim
theorem ds_aug {i : Nat} {x : Str} {pos' : Pos} (o : Bo) (hN : X.N.Nodup) (hi : X.N[i]? = some x) (hx : Loc X.env.scope x) (hfn : X.fn x = true ∨ X.env.scope.names.lookup x = some .local) (ha : DE X T W ea a) : DS X T W (.AugAssign (.Name x pos') (opOf o) ea pos) (cAug i o a) :=
  (ps_aug hN hi hx ha (rAug_ok o) hfn).weaken fun D0 σ H ⟨P, G, Γ, s, F, h⟩ => by
    obtain ⟨x0, e0, h⟩ := opt_run h
    unfold intAt at e0
    split at e0
    · rename_i x1 e1
      cases e0
      obtain ⟨v, h1, h2⟩ := F.dat i _ e1
      cases h2
      refine ⟨_, h1, xE.opd F (M.weak h fun p s1 h w G1 H1 u1 F1 o1 => ?_)⟩
      obtain ⟨y, dy, h⟩ := use_run F1 o1 h
      obtain ⟨j, rfl, h⟩ := isI_run h
      rw [dy.int]
      exact aug_ok h fun z hz => hz _ G1 H1 u1 (F1.setDat (.int z))
    · cases e0
theorem ds_put {i : Nat} {x : Str} {px ps : Pos} (hN : X.N[i]? = some x) (hv : Vis X.env.scope x) (ha : DE X T W ea a) (hb : DE X T W eb b) (hd : (x == ("__debug__" : Str)) = false := by decide) (hcd : (x == ("__classdict__" : Str)) = false := by decide)
    (hg : ∀ v, assign (.Subscript (.Name x px) eb ps) X.env v = (do
      let ov ← holding [v] (eval (.Name x px) X.env)
      let iv ← holding [v, ov] (eval eb X.env)
      standAt ps
      holding [v, ov, iv] (setItem ov iv v)
      release [v, ov, iv] []) := by intro _; rfl)
    (hs : swapsWithSole [.Subscript (.Name x px) eb ps] ea pos.line X.env = pure false := by rfl) (hw : swappedStores [.Subscript (.Name x px) eb ps] ea X.env = pure none := by rfl) (h1 : (assignEach [.Subscript (.Name x px) eb ps] X.env).map (·.2) = [assign (.Subscript (.Name x px) eb ps) X.env] := by rfl) :
    DS X T W (.Assign [.Subscript (.Name x px) eb ps] ea pos) (cPut i b a) :=
  (ps_asg ha (pg_sub (pe_var hN hv hd hcd) hb set_list hg) hs hw h1).weaken fun D0 σ H ⟨P, G, Γ, s, F, h⟩ => by
    refine xE.opd F (M.weak h fun p s1 h v G1 H1 u1 F1 o1 => ?_)
    obtain ⟨_, l0, xs0, e0, hσ, _, _, _, h⟩ := ownL_run F1 h
    refine ⟨.ref l0, hσ, xE.opd F1 (M.weak h fun q s2 h w G2 H2 u2 F2 o2 => ?_)⟩
    obtain ⟨y, dy, h⟩ := use_run F2 o2 h
    obtain ⟨k, rfl, h⟩ := isI_run h
    obtain ⟨d, Γ', G3, u3, F3, dr, h⟩ := frz_run F2 (o1.mono u2) h
    obtain ⟨ds, l, xs, e1, hσ', hl, r, m, ⟨z1, z2, z3⟩, h⟩ := ownL_run F3 h
    rw [hσ] at hσ'; cases hσ'
    refine ⟨l0, xs, k, k.toNat, rfl, dy.int, hl, ?_, h σ G3 _ (u1.trans (u2.trans u3)) (F3.put e1 hσ (DRs.set dr _ r))⟩
    unfold ixN
    rw [if_pos z1, if_pos (by rw [r.length]; exact z2)]
def rGetL : R2 := fun o i H Q => ∃ l xs k v, o = .ref l ∧ i = .int k ∧ H l = some (.lst xs) ∧ 0 ≤ k ∧ k < 2 ^ 63 ∧ xs[k.toNat]? = some v ∧ Q v H
theorem get_list : PGet X rGetL := by
  rintro pins s σ H o i ov iv Q I ro ri ⟨l, xs, k, v, rfl, rfl, hl, k0, k1, hk, q⟩
  cases ro
  obtain ⟨t, rfl⟩ := ri
  obtain ⟨its, r, pl, _⟩ := I.list (SqL.of hl)
  obtain ⟨u, hu, ru⟩ := r.get hk
  exact wpAny_getItem_list pl.isList k0 k1 (by simpa using hu) ⟨v, H, I, ru, q⟩
theorem ds_augAt {i : Nat} {x : Str} {px ps : Pos} (o : Bo) (hN : X.N[i]? = some x) (hv : Vis X.env.scope x) (ha : DE X T W ea a) (hb : DE X T W eb b) (hd : (x == ("__debug__" : Str)) = false := by decide) (hcd : (x == ("__classdict__" : Str)) = false := by decide)
    (hg : ∀ ov iv new, augStore eb ov iv new = (do holding [new, ov, iv] (setItem ov iv new); release [new, ov, iv] []; pure .next) := by intros; rfl) : DS X T W (.AugAssign (.Subscript (.Name x px) eb ps) (opOf o) ea pos) (cAugAt i b o a) :=
  (ps_augS (pe_var hN hv hd hcd) hb get_list ha (rAug_ok o) set_list hg).weaken fun D0 σ H ⟨P, G, Γ, s, F, h⟩ => by
    obtain ⟨_, l, xs0, e0, hσ, _, _, _, h⟩ := ownL_run F h
    refine ⟨.ref l, hσ, xE.opd F (M.weak h fun p s1 h v G1 H1 u1 F1 o1 => ?_)⟩
    obtain ⟨y, dy, h⟩ := use_run F1 o1 h
    obtain ⟨k, rfl, h⟩ := isI_run h
    obtain ⟨ds, l', xs, e1, hσ', hl, r, m, ⟨z1, z2, z3⟩, h⟩ := ownL_run F1 h
    rw [hσ] at hσ'; cases hσ'
    obtain ⟨od, eo, h⟩ := opt_run h
    obtain ⟨old, rfl, h⟩ := isI_run h
    obtain ⟨ov, eov, dov⟩ := r.get eo
    cases dov
    refine ⟨l, xs, k, .int old, rfl, dy.int, hl, z1, by omega, eov, xE.opd F1 (M.weak h fun q s2 h w G2 H2 u2 F2 o2 => ?_)⟩
    obtain ⟨y2, dy2, h⟩ := use_run F2 o2 h
    obtain ⟨j, rfl, h⟩ := isI_run h
    rw [dy2.int]
    refine aug_ok h fun z hz => ?_
    obtain ⟨ds2, l', xs2, e2, hσ', hl2, r2, m2, z4, hz⟩ := ownL_run F2 hz
    rw [hσ] at hσ'; cases hσ'
    refine ⟨l, xs2, k, k.toNat, rfl, dy.int, hl2, ?_, hz σ G2 _ (u1.trans u2) (F2.put e2 hσ (DRs.set (.int z) _ r2))⟩
    unfold ixN
    rw [if_pos z1, if_pos (by rw [r2.length]; exact z4)]

/-! ### loops -/
/-- the iterator yields the data, one after the other -/
def ItOk (K : PySem.W.Frag) (T : Nat → Option Addr) (G : Hp) (J : It) (ds : List D) : Prop :=
  ∀ (i : Nat) (H : Hp), Sub G H → (∀ d, ds[i]? = some d → J.go i H ∧ ∀ x H', J.yld i H x H' → H' = H ∧ DR K T G x d) ∧ (ds.length ≤ i → J.stop i H)
theorem ItOk.list {K : PySem.W.Frag} {G : Hp} {l : Addr} {xs : List V} {ds : List D} (h : G l = some (.lst xs)) (r : DRs K T G xs ds) : ItOk K T G (Itl K l) ds := fun i H u => by
  have q : SqL K H l xs := SqL.of (u _ _ h)
  refine ⟨fun d e => ?_, fun e => ⟨xs, q, r.length ▸ e⟩⟩
  obtain ⟨v, e', dv⟩ := r.get e
  refine ⟨⟨xs, v, q, e'⟩, fun x H' y => ⟨y.1, ?_⟩⟩
  have := y.2 xs q
  rw [e'] at this; cases this
  exact dv
theorem ItOk.tup {K : PySem.W.Frag} {G : Hp} {l : Addr} {xs : List V} {ds : List D} (h : TpT K G l xs) (r : DRs K T G xs ds) : ItOk K T G (Itt K l) ds := fun i H u => by
  have q : SqT K H l xs := (u.tp h).sq
  refine ⟨fun d e => ?_, fun e => ⟨xs, q, r.length ▸ e⟩⟩
  obtain ⟨v, e', dv⟩ := r.get e
  refine ⟨⟨xs, v, q, e'⟩, fun x H' y => ⟨y.1, ?_⟩⟩
  have := y.2 xs q
  rw [e'] at this; cases this
  exact dv
theorem ItOk.rg {K : PySem.W.Frag} {G : Hp} (lo hi : Int) : ItOk K T G (Itr lo (hi - lo).toNat) (rngL lo hi) := fun i H u => by
  have l : (rngL lo hi).length = (hi - lo).toNat := by unfold rngL; rw [List.length_map, List.length_range]
  refine ⟨fun d e => ?_, fun e => by rw [l] at e; exact e⟩
  have hlt : i < (hi - lo).toNat := l ▸ (List.getElem?_eq_some_iff.mp e).1
  refine ⟨hlt, fun x H' y => ⟨y.1, ?_⟩⟩
  unfold rngL at e
  rw [List.getElem?_map, List.getElem?_range hlt] at e
  cases e
  rw [y.2]
  exact .int _
variable (X T W) in
/-- what a loop walks, as data -/
def xI (w : TIv S) : TI := fun σ H R => ∃ P G Γ s, Fr X.K T W P G Γ s σ H ∧ (w Γ).run s (fun p s' => ∀ J G' H', Sub G G' → Fr X.K T W P G' p.2 s' σ H' → ItOk X.K T G' J p.1 → R J H') noX
variable (X T W) in
abbrev DI (tg e : Expr) (w : TIv S) : Prop := PI X tg e (xI X T W w)
/-- a list, a tuple, a range object -/
def iAny (K : PySem.W.Frag) (tl : TE) : TI := fun σ H R => tl σ H fun x H1 => ∃ l, x = .ref l ∧ ((∃ xs, SqL K H1 l xs) ∧ R (Itl K l) H1 ∨ (∃ xs, SqT K H1 l xs) ∧ R (Itt K l) H1 ∨
  ∃ lo hi, H1 l = some (.rng lo hi) ∧ RgOk lo hi ∧ R (Itr lo (hi - lo).toNat) H1)
theorem pi_any {tg e : Expr} {tl : TE} (he : PE X e tl) : PI X tg e (iAny X.K tl) := ⟨fun pins s σ H R I h => thn (he.run pins s σ H _ I h) fun v s1 ⟨x, H1, J, r1, l, ex, q⟩ => by
  subst ex
  cases r1
  have fp : ∀ {h' : Heap} {tk : Nat} (Jk : Inv X pins σ H1 { s1 with heap := h', toks := tk }) (b : Addr), b ∈ [s1.heap.objs.size] → FpOk X pins H1 b := fun _ b hb => by
    have z : b = s1.heap.objs.size := by simpa using hb
    subst z
    exact J.fpOk (Nat.le_refl _) (J.hok.fresh (Nat.le_refl _))
  rcases q with ⟨⟨xs, hq⟩, q⟩ | ⟨⟨xs, hq⟩, q⟩ | ⟨lo, hi, hq, ⟨b1, b2, b3, b4, _⟩, q⟩
  · obtain ⟨its, _, p, _⟩ := J.list hq
    refine wpAny_pyIter_list p.isList ?_
    have Jk := J.kept (h' := s1.heap.push { cls := .type "list_iterator", data := .fields #[.ref l, .int 0 0] }) (t' := s1.toks) fun b o e => Heap.get?_push_of_some _ e
    exact ⟨s1.heap.objs.size, [s1.heap.objs.size], _, _, H1, rfl, Jk, turn_list l _, ⟨_, Heap.get?_push_size _ rfl, rfl, rfl⟩, fp Jk, q⟩
  · obtain ⟨its, _, p, _⟩ := J.tuple hq
    refine wpAny_pyIter_tuple (show s1.heap.IsTuple l its.toArray from p) ?_
    have Jk := J.kept (h' := s1.heap.push { cls := .type "tuple_iterator", data := .fields #[.ref l, .int 0 0] }) (t' := s1.toks) fun b o e => Heap.get?_push_of_some _ e
    exact ⟨s1.heap.objs.size, [s1.heap.objs.size], _, _, H1, rfl, Jk, turn_tuple l _, ⟨_, Heap.get?_push_size _ rfl, rfl, rfl⟩, fp Jk, q⟩
  · obtain ⟨t, u, v, e⟩ := (show ObjOk X.prog X.w H1 s1.heap l (.rng lo hi) from J.hok l _ hq)
    refine wpAny_pyIter_range (show IsRange s1.heap l lo hi 1 t u v from e) (small_one b1 b2 b3 b4) ?_
    have e1 : lo + ((0 : Nat) : Int) * 1 = lo := by simp
    have e2 : (((hi - lo).toNat : Nat) : Int) - ((0 : Nat) : Int) = Builtin.Range.rangeSize lo hi 1 := by rw [rangeSize_one]; split <;> omega
    refine ⟨s1.heap.objs.size, [s1.heap.objs.size], _, _, H1, rfl, J.kept (t' := s1.toks) fun b o e => Heap.get?_push_of_some _ e, turn_range _ lo (hi - lo).toNat, ?_, fun b hb => ?_, q⟩
    · show IsRangeIter _ _ (lo + ((0 : Nat) : Int) * 1) ((((hi - lo).toNat : Nat) : Int) - ((0 : Nat) : Int)) 1
      rw [e1, e2]
      exact Heap.get?_push_size _ rfl
    · have z : b = s1.heap.objs.size := by simpa using hb
      subst z
      exact J.fpOk (Nat.le_refl _) (J.hok.fresh (Nat.le_refl _))⟩
/-- range objects are small -/
def rgSmall (d : D) : Prop := match d with
  | .rng lo hi => -1000000 ≤ lo ∧ lo ≤ 1000000 ∧ -1000000 ≤ hi ∧ hi ≤ 1000000
  | _ => True
theorem di_it {tg : Expr} (ha : DE X T W ea a) : DI X T W tg ea (wIt a) := (pi_any ha).weaken fun σ H R ⟨P, G, Γ, s, F, h⟩ => by
  refine xE.opd F (M.weak h fun p s1 h v G1 H1 u1 F1 o1 => ?_)
  obtain ⟨d, Γ', G2, u2, F2, dr, h⟩ := frz_run F1 o1 h
  obtain ⟨ds, e, h⟩ := opt_run h
  cases d with
  | tup ys =>
    cases e
    cases dr with
    | tup hq r => exact ⟨_, rfl, .inr (.inl ⟨⟨_, (Sub.tp F2.wf.gh hq).sq⟩, h _ G2 H1 (u1.trans u2) F2 (.tup hq r)⟩)⟩
  | lst ys =>
    cases e
    cases dr with
    | lst hq r => exact ⟨_, rfl, .inl ⟨⟨_, SqL.of (F2.wf.gh _ _ hq)⟩, h _ G2 H1 (u1.trans u2) F2 (.list hq r)⟩⟩
  | rng lo hi =>
    simp only [itemsOf] at e
    split at e
    · rename_i hb
      cases e
      cases dr with
      | rng hq => exact ⟨_, rfl, .inr (.inr ⟨lo, hi, F2.wf.gh _ _ hq, rg_of hb, h _ G2 H1 (u1.trans u2) F2 (.rg lo hi)⟩)⟩
    · cases e
  | _ => cases e
theorem small62 {j : Int} (h : -1000000 ≤ j ∧ j ≤ 1000000) : -(2 ^ 62) ≤ j ∧ j < 2 ^ 62 := by omega
theorem di_r1 {tg : Expr} {p : Pos} (hg : Gl X "range") (hm : X.mg "range" = none) (ha : DE X T W ea a) (h1 : starEach [ea] X.env = (false, eval ea X.env) :: starEach [] X.env := by rfl) (hs : starEach [ea] X.env = [(false, eval ea X.env)] := by rfl) : DI X T W tg (.Call (.Name "range" p) [ea] [] pos) (wR1 a) :=
  (pi_range1 hg hm (pa_cons ha pa_nil h1) hs).weaken fun σ H R ⟨P, G, Γ, s, F, h⟩ => by
    refine xE.opd F (M.weak h fun p s1 h v G1 H1 u1 F1 o1 => ?_)
    obtain ⟨x, dx, h⟩ := use_run F1 o1 h
    obtain ⟨j, rfl, hz, h⟩ := isI_run h
    refine ⟨j, by rw [dx.int], (small62 hz).1, (small62 hz).2, h _ G1 H1 u1 F1 ?_⟩
    have := ItOk.rg (T := T) (K := X.K) (G := G1) 0 j
    rw [Int.sub_zero] at this
    exact this
theorem di_r2 {tg : Expr} {p : Pos} (hg : Gl X "range") (hm : X.mg "range" = none) (ha : DE X T W ea a) (hb : DE X T W eb b) (h1 : starEach [ea, eb] X.env = (false, eval ea X.env) :: starEach [eb] X.env := by rfl) (h2 : starEach [eb] X.env = (false, eval eb X.env) :: starEach [] X.env := by rfl)
    (hs : starEach [ea, eb] X.env = [(false, eval ea X.env), (false, eval eb X.env)] := by rfl) (hs2 : starEach [eb] X.env = [(false, eval eb X.env)] := by rfl) : DI X T W tg (.Call (.Name "range" p) [ea, eb] [] pos) (wR2 a b) :=
  (pi_range2 hg hm (pa_cons ha (pa_cons hb pa_nil h2) h1) hs hs2).weaken fun σ H R ⟨P, G, Γ, s, F, h⟩ => by
    refine xE.opd F (M.weak h fun p s1 h v G1 H1 u1 F1 o1 => ?_)
    refine xE.opd F1 (M.weak h fun q s2 h w G2 H2 u2 F2 o2 => ?_)
    obtain ⟨x, dx, h⟩ := use_run F2 (o1.mono u2) h
    obtain ⟨y, dy, h⟩ := use_run F2 o2 h
    obtain ⟨i, rfl, h⟩ := isI_run (x := x) h
    obtain ⟨j, rfl, ⟨z1, z2, z3, z4⟩, h⟩ := isI_run (x := y) h
    have i1 := small62 ⟨z1, z2⟩
    have i2 := small62 ⟨z3, z4⟩
    exact ⟨i, j, by rw [dx.int, dy.int], ⟨i1.1, i1.2, i2.1, i2.2⟩, h _ G2 H2 (u1.trans u2) F2 (.rg i j)⟩
theorem ds_for {tg eit : Expr} {g : IG} {w : TIv S} {body : List Stmt} (hp : PassesOwn (model X.prog X.w) X.A X.env X.xe) (hc : X.calm = true) (hi : DI X T W tg eit w) (hg : DG X tg g) (hb : DSs X T W body m) (hs : ∀ x, foldedSetIterable eit X.env x = pure x := by intro _; rfl) :
    DS X T W (.For tg eit body [] pos) (cFor g w m) := (ps_for hp hc hi hg hb hs).weaken fun D0 σ H ⟨P, G, Γ, s, F, h⟩ => by
  refine ⟨P, G, Γ, s, F, M.weak h fun p s1 h J G1 H1 u1 F1 ok => ?_⟩
  obtain ⟨ds, Γp⟩ := p
  have h : (forLoop (fun d Γ1 => (M.opt (setG g d Γ1)).bind fun Γ2 => m Γ2) ds Γp).run s1 (fun f s => FlK X T W P G D0 s f) noX := h
  have F1 : Fr X.K T W P G1 Γp s1 σ H1 := F1
  have ok : ItOk X.K T G1 J ds := ok
  refine ⟨fun i k σ H => k = ds.length - i ∧ i ≤ ds.length ∧ ∃ G' Γ' s', Sub G1 G' ∧ Fr X.K T W P G' Γ' s' σ H ∧ (forLoop (fun d Γ1 => (M.opt (setG g d Γ1)).bind fun Γ2 => m Γ2) (ds.drop i) Γ').run s' (fun f s => FlK X T W P G D0 s f) noX, ⟨ds.length, by simp, Nat.zero_le _, G1, Γp, s1, Sub.refl _, F1, h⟩, ?_⟩
  rintro i k σ2 H2 ⟨rfl, hi, G2, Γ2, s2, u2, F2, h⟩
  have okH := ok i H2 (u2.trans F2.wf.gh)
  by_cases hlt : i < ds.length
  · right
    have e : ds[i]? = some ds[i] := by simp [hlt]
    obtain ⟨go, yl⟩ := okH.1 _ e
    rw [List.drop_eq_getElem_cons hlt] at h
    refine ⟨go, fun σ3 H3 => ∃ G' Γ' s', Sub G1 G' ∧ Fr X.K T W P G' Γ' s' σ3 H3 ∧ (forLoop (fun d Γ1 => (M.opt (setG g d Γ1)).bind fun Γ2 => m Γ2) (ds.drop (i + 1)) Γ').run s' (fun f s => FlK X T W P G D0 s f) noX, fun σ3 H3 q => ⟨ds.length - (i + 1), by omega, rfl, hlt, q⟩, fun x H' y => ?_⟩
    obtain ⟨rfl, dx⟩ := yl x H' y
    have h : ((M.opt (setG g ds[i] Γ2)).bind fun Γ2 => m Γ2).run s2 (fun f t => (match f with
      | Fl.nx Γ' => forLoop (fun d Γ1 => (M.opt (setG g d Γ1)).bind fun Γ2 => m Γ2) (ds.drop (i + 1)) Γ'
      | .ct Γ' => forLoop (fun d Γ1 => (M.opt (setG g d Γ1)).bind fun Γ2 => m Γ2) (ds.drop (i + 1)) Γ'
      | .bk Γ' => .pure (.nx Γ')
      | .rt d => .pure (.rt d) : M S Fl).run t (fun f s => FlK X T W P G D0 s f) noX) noX := h
    obtain ⟨Γ3, e3, h⟩ := opt_run h
    refine set_ok F2 (dx.mono u2) e3 fun σ3 F3 _ => xS.by F3 (M.weak h fun f s3 h => ?_)
    cases f with
    | nx Γ4 => exact fun σ4 G4 H4 u4 F4 => ⟨G4, Γ4, s3, u2.trans u4, F4, h⟩
    | ct Γ4 => exact fun σ4 G4 H4 u4 F4 => ⟨G4, Γ4, s3, u2.trans u4, F4, h⟩
    | bk Γ4 => exact fun σ4 G4 H4 u4 F4 => h σ4 G4 H4 ((u1.trans u2).trans u4) F4
    | rt d => exact fun v G4 H4 u4 w4 dr => h v G4 H4 ((u1.trans u2).trans u4) w4 dr
  · left
    have e : i = ds.length := by omega
    subst e
    rw [List.drop_length] at h
    exact ⟨okH.2 (Nat.le_refl _), h σ2 G2 H2 (u1.trans u2) F2⟩
theorem ds_while {ta : TTv S} {body : List Stmt} (hp : PassesOwn (model X.prog X.w) X.A X.env X.xe) (ht : DT X T W ec ta) (hb : DSs X T W body m) : DS X T W (.While ec body [] pos) (cWhile ta m) := (ps_while hp ht hb).weaken fun D0 σ H ⟨P, G, Γ, s, F, n, h⟩ => by
  refine ⟨fun k σ H => ∃ G' Γ' s', Sub G G' ∧ Fr X.K T W P G' Γ' s' σ H ∧ (whileLoop ta m k Γ').run s' (fun f s => FlK X T W P G D0 s f) noX, ⟨n, G, Γ, s, Sub.refl _, F, h⟩, ?_⟩
  rintro k σ2 H2 ⟨G2, Γ2, s2, u2, F2, h⟩
  cases k with
  | zero => exact h.elim
  | succ k =>
    refine xT.by F2 (M.weak h fun p s3 h G3 H3 u3 F3 => ?_)
    cases e : p.1 with
    | false =>
      rw [if_neg (by decide)]
      exact h.2 e σ2 G3 H3 (u2.trans u3) F3
    | true =>
      rw [if_pos rfl]
      refine ⟨fun σ4 H4 => ∃ G' Γ' s', Sub G G' ∧ Fr X.K T W P G' Γ' s' σ4 H4 ∧ (whileLoop ta m k Γ').run s' (fun f s => FlK X T W P G D0 s f) noX, fun σ4 H4 q => ⟨k, Nat.lt_succ_self _, q⟩, xS.by F3 (M.weak (h.1 e) fun f s4 h => ?_)⟩
      cases f with
      | nx Γ4 => exact fun σ4 G4 H4 u4 F4 => ⟨G4, Γ4, s4, (u2.trans u3).trans u4, F4, h⟩
      | ct Γ4 => exact fun σ4 G4 H4 u4 F4 => ⟨G4, Γ4, s4, (u2.trans u3).trans u4, F4, h⟩
      | bk Γ4 => exact fun σ4 G4 H4 u4 F4 => h σ4 G4 H4 ((u2.trans u3).trans u4) F4
      | rt d => exact fun v G4 H4 u4 w4 dr => h v G4 H4 ((u2.trans u3).trans u4) w4 dr
end
end Ev
/-! from E7.lean -/
set_option maxRecDepth 100000
set_option maxHeartbeats 4000000
/-! Ev, part 7: list comprehensions. -/
namespace Ev
open PySem PySem.Spec PyProof.Rows L2
theorem wipeG_get {Γ : List Sl} {i : Nat} {sl : Sl} : ∀ {vs : List Nat}, (wipeG Γ vs)[i]? = some sl → sl = .no ∨ (i ∉ vs ∧ Γ[i]? = some sl)
  | [], h => .inr ⟨by simp, h⟩
  | v :: vs, h => by
    unfold wipeG at h
    by_cases e : v = i
    · subst e
      rw [List.getElem?_set] at h
      simp only [if_true] at h
      split at h
      · cases h; exact .inl rfl
      · cases h
    · rw [List.getElem?_set_ne e] at h
      rcases wipeG_get h with z | ⟨z1, z2⟩
      · exact .inl z
      · exact .inr ⟨fun z => (List.mem_cons.mp z).elim (fun z => e z.symm) z1, z2⟩
theorem wipeG_len (Γ : List Sl) : ∀ vs : List Nat, (wipeG Γ vs).length = Γ.length
  | [] => rfl
  | v :: vs => by unfold wipeG; rw [List.length_set, wipeG_len Γ vs]
theorem backG_len (Γ Γ' : List Sl) : ∀ vs : List Nat, (backG Γ Γ' vs).length = Γ'.length
  | [] => rfl
  | v :: vs => by unfold backG; rw [List.length_set, backG_len Γ Γ' vs]
theorem backG_get {Γ Γ' : List Sl} {i : Nat} {sl : Sl} : ∀ {vs : List Nat}, (backG Γ Γ' vs)[i]? = some sl → (i ∈ vs ∧ sl = Γ[i]?.getD .no) ∨ (i ∉ vs ∧ Γ'[i]? = some sl)
  | [], h => .inr ⟨by simp, h⟩
  | v :: vs, h => by
    unfold backG at h
    by_cases e : v = i
    · subst e
      rw [List.getElem?_set] at h
      simp only [if_true] at h
      split at h
      · cases h; exact .inl ⟨List.mem_cons_self, rfl⟩
      · cases h
    · rw [List.getElem?_set_ne e] at h
      rcases backG_get h with ⟨z1, z2⟩ | ⟨z1, z2⟩
      · exact .inl ⟨List.mem_cons_of_mem _ z1, z2⟩
      · exact .inr ⟨fun z => (List.mem_cons.mp z).elim (fun z => e z.symm) z1, z2⟩
theorem clearG_no {Γ : List Sl} {i : Nat} {d : D} : ∀ {vs : List Nat}, clearG Γ vs = true → i ∈ vs → Γ[i]? ≠ some (.own d)
  | v :: vs, h, m => by
    unfold clearG at h
    rw [Bool.and_eq_true] at h
    rcases List.mem_cons.mp m with e | e
    · subst e
      intro z
      rw [z] at h
      cases h.1
    · exact clearG_no h.2 e

section
variable {S : Type} {K : PySem.W.Frag} {T : Nat → Option Addr} {W : Wd S} {P G G' H H' : Hp} {Γ Γ' : List Sl} {s s' : S} {σ : L2.St}
/-- into a block: its own names are not yet set -/
theorem Fr.wipe (F : Fr K T W P G Γ s σ H) (vs : List Nat) : Fr K T W P G (wipeG Γ vs) s (L2.wipe σ vs) H := by
  refine ⟨F.wf, by rw [wipeG_len, wipe_length]; exact F.len, fun i d e => ?_, fun i d e => ?_, fun i j d1 d2 a e1 e2 q1 q2 => ?_⟩
  · rcases wipeG_get e with z | ⟨n, z⟩
    · cases z
    · rw [wipe_out n]; exact F.dat i d z
  · rcases wipeG_get e with z | ⟨n, z⟩
    · cases z
    · rw [wipe_out n]; exact F.own i d z
  · rcases wipeG_get e1 with z | ⟨n1, z1⟩
    · cases z
    · rcases wipeG_get e2 with z | ⟨n2, z2⟩
      · cases z
      · rw [wipe_out n1] at q1
        rw [wipe_out n2] at q2
        exact F.inj i j d1 d2 a z1 z2 q1 q2
/-- .. and out of it -/
theorem Fr.unwipe {vs : List Nat} (F : Fr K T W P G Γ s σ H) (u : Sub G G') (hc : clearG Γ vs = true) (F' : Fr K T W P G' Γ' s' (L2.wipe σ vs) H') : Fr K T W P G' (backG Γ Γ' vs) s' σ H' := by
  have own : ∀ {i : Nat} {d : D}, (backG Γ Γ' vs)[i]? = some (.own d) → i ∉ vs ∧ Γ'[i]? = some (.own d) := fun {i d} e => by
    rcases backG_get e with ⟨m, z⟩ | z
    · exfalso
      cases q : Γ[i]? with
      | none => rw [q] at z; cases z
      | some sl => rw [q] at z; exact clearG_no hc m (q.trans (congrArg some z.symm))
    · exact z
  refine ⟨F'.wf, by rw [backG_len, F'.len, wipe_length], fun i d e => ?_, fun i d e => ?_, fun i j d1 d2 a e1 e2 q1 q2 => ?_⟩
  · rcases backG_get e with ⟨m, z⟩ | ⟨n, z⟩
    · cases q : Γ[i]? with
      | none => rw [q] at z; cases z
      | some sl =>
        rw [q] at z
        obtain ⟨v, h1, h2⟩ := F.dat i d (q.trans (congrArg some z.symm))
        exact ⟨v, h1, h2.mono u⟩
    · obtain ⟨v, h1, h2⟩ := F'.dat i d z
      rw [wipe_out n] at h1
      exact ⟨v, h1, h2⟩
  · obtain ⟨n, z⟩ := own e
    obtain ⟨a, h1, h2, h3⟩ := F'.own i d z
    rw [wipe_out n] at h1
    exact ⟨a, h1, h2, h3⟩
  · obtain ⟨n1, z1⟩ := own e1
    obtain ⟨n2, z2⟩ := own e2
    exact F'.inj i j d1 d2 a z1 z2 (by rw [wipe_out n1]; exact q1) (by rw [wipe_out n2]; exact q2)
/-- the list that is kept grows -/
theorem Fr.grow {a : Addr} {o o' : HO} (F : Fr K T W (upd P a o) G Γ s σ H) (n : P a = none) : Fr K T W (upd P a o') G Γ s σ (upd H a o') := by
  obtain ⟨F', m, off, e⟩ := F.back n
  have F2 : Fr K T W P G Γ s σ (upd H a o') := by
    refine ⟨F'.wf.write m o', F'.len, F'.dat, fun i d e => ?_, F'.inj⟩
    obtain ⟨b, h1, h2, h3⟩ := F'.own i d e
    have q : b ≠ a := fun z => off i d e (z ▸ h1)
    exact ⟨b, h1, h2.mono (Sub.refl _) (by rw [upd_ne q]), h3⟩
  refine ⟨⟨F2.wf.gh, fun b u z => ?_, fun b u z => ?_, fun b u z => ?_, F2.wf.gf, F2.wf.w⟩, F2.len, F2.dat, fun i d z => ?_, F2.inj⟩
  · by_cases q : b = a
    · subst q; rw [upd_same] at z; cases z; exact upd_same
    · rw [upd_ne q] at z; exact F2.wf.ph b u z
  · by_cases q : b = a
    · subst q; exact m.g
    · rw [upd_ne q] at z; exact F2.wf.pg b u z
  · by_cases q : b = a
    · subst q; exact m.f
    · rw [upd_ne q] at z; exact F2.wf.pf b u z
  · obtain ⟨b, h1, h2, h3⟩ := F2.own i d z
    have q : b ≠ a := fun y => off i d z (y ▸ h1)
    exact ⟨b, h1, h2, h3.g, by rw [upd_ne q]; exact h3.p, h3.f⟩
end

section
variable {S : Type} {X : Cx} {T : Nat → Option Addr} {W : Wd S} {pos : Pos}
theorem PTs.weaken {X : Cx} {e : List Expr} {t t' : TT} (h : PTs X e t) (f : ∀ σ H Q, t' σ H Q → t σ H Q) : PTs X e t' := ⟨fun pins s σ H Q I q => h.run pins s σ H Q I (f _ _ _ q)⟩
variable (X T W) in
abbrev DTs (e : List Expr) (m : TTv S) : Prop := PTs X e (xT X.K T W m)
theorem dts_nil : DTs X T W [] (qYes : TTv S) := (PTs.weaken pts_nil fun σ H Q ⟨P, G, Γ, s, F, h⟩ => h G H (Sub.refl _) F)
theorem dts_one {c : Expr} {t : TTv S} (h : DT X T W c t) : DTs X T W [c] t := pts_one h
theorem le_lc {vs : List Nat} {g : IG} {w : TIv S} {t : TTv S} {e : TEv S} (hv : ∀ i ∈ g.slots, i ∈ vs) (σ : L2.St) (H : Hp) (Q : VK) : xE X.K T W (eLc vs g w t e) σ H Q → tLc (xI X T W w) (tgOf X.K g) (xT X.K T W t) (xE X.K T W e) vs σ H Q := fun ⟨P, G, Γ, s, F, h⟩ => by
  refine ⟨P, G, Γ, s, F, M.weak h fun p s1 h J G1 H1 u1 F1 ok Da hD => ?_⟩
  obtain ⟨ds, Γp⟩ := p
  obtain ⟨⟨hc, hz⟩, h⟩ := h
  have F1 : Fr X.K T W P G1 Γp s1 σ H1 := F1
  have ok : ItOk X.K T G1 J ds := ok
  have hz : ds.length ≤ 1000000 := hz
  obtain ⟨F0, m0, off0⟩ := F1.new hD (.lst [])
  obtain ⟨P0, F0', o0⟩ := Ow.of F0 (.own (d := .lst []) ⟨[], upd_same, .nil⟩ m0 off0)
  have nP : P Da = none := m0.p
  have e0 : P0 = upd P Da (.lst []) := by
    cases o0 with
    | @own a o d n ob =>
      obtain ⟨xs, e, r⟩ := ob
      cases r
      rw [e]
  subst e0
  refine ⟨fun i k H => k = ds.length - i ∧ i ≤ ds.length ∧ ∃ G' Γ' s' acc accD, Sub G1 G' ∧ Fr X.K T W (upd P Da (.lst acc)) G' Γ' s' (L2.wipe σ vs) H ∧ DRs X.K T G' acc accD ∧ accD.length ≤ i ∧
    (lcLoop (lcBody vs g t e) (ds.drop i) Γ').run s' (fun q t => ∀ v G' H', Sub G G' → Fr X.K T W P G' (backG Γp q.2 vs) t σ H' → RR X.K T W P G' (backG Γp q.2 vs) t σ H' v (.own (.lst (accD ++ q.1))) → Q v H') noX,
    ⟨ds.length, by simp, Nat.zero_le _, G1, wipeG Γp vs, s1, [], [], Sub.refl _, F0'.wipe vs, .nil, Nat.zero_le _, M.weak h fun q t h => h⟩, ?_⟩
  rintro i k H2 ⟨rfl, hi, G2, Γ2, s2, acc, accD, u2, F2, ra, hl, h⟩
  have okH := ok i H2 (u2.trans F2.wf.gh)
  by_cases hlt : i < ds.length
  · right
    have ed : ds[i]? = some ds[i] := by simp [hlt]
    obtain ⟨go, yl⟩ := okH.1 _ ed
    rw [List.drop_eq_getElem_cons hlt] at h
    refine ⟨go, fun H3 => ∃ G' Γ' s' acc accD, Sub G1 G' ∧ Fr X.K T W (upd P Da (.lst acc)) G' Γ' s' (L2.wipe σ vs) H3 ∧ DRs X.K T G' acc accD ∧ accD.length ≤ i + 1 ∧
      (lcLoop (lcBody vs g t e) (ds.drop (i + 1)) Γ').run s' (fun q t => ∀ v G' H', Sub G G' → Fr X.K T W P G' (backG Γp q.2 vs) t σ H' → RR X.K T W P G' (backG Γp q.2 vs) t σ H' v (.own (.lst (accD ++ q.1))) → Q v H') noX, fun H3 q => ⟨ds.length - (i + 1), by omega, rfl, hlt, q⟩, fun x H' y => ?_⟩
    obtain ⟨rfl, dx⟩ := yl x H' y
    obtain ⟨Γ3, e3, h⟩ := opt_run (o := setG g ds[i] Γ2) h
    refine set_ok F2 (dx.mono u2) e3 fun σ3 F3 sb => ?_
    have hw : L2.wipe σ3 vs = L2.wipe σ vs := (sb vs hv).trans (by
      have : ∀ us : List Nat, (∀ i ∈ us, i ∈ vs) → L2.wipe (L2.wipe σ us) vs = L2.wipe σ vs := fun us => by
        induction us with
        | nil => exact fun _ => rfl
        | cons u us ih => exact fun hu => (wipe_set (hu u List.mem_cons_self)).trans (ih fun i hi => hu i (List.mem_cons_of_mem _ hi))
      exact this vs fun _ z => z)
    refine ⟨hw, xT.by F3 (M.weak h fun q s4 h G4 H4 u4 F4 => ?_)⟩
    cases eq : q.1 with
    | false =>
      rw [if_neg (by decide)]
      have F5 := F4.wipe vs
      rw [hw] at F5
      exact ⟨G4, _, s4, acc, accD, u2.trans u4, F5, ra.mono u4, by omega, h.2 eq⟩
    | true =>
      rw [if_pos rfl]
      refine xE.opd F4 (M.weak (h.1 eq) fun r s5 h v G5 H5 u5 F5 o5 => ?_)
      obtain ⟨z, Γ6, G6, u6, F6, dz, h⟩ := frz_run F5 o5 h
      have hD5 : H5 Da = some (.lst acc) := F6.wf.ph _ _ upd_same
      refine ⟨acc, hD5, size_lt (by rw [ra.length]; omega), G6, wipeG Γ6 vs, s5, acc ++ [v], accD ++ [z], u2.trans (u4.trans (u5.trans u6)), ?_, (ra.mono (u4.trans (u5.trans u6))).append (.cons dz .nil), by rw [List.length_append, List.length_singleton]; omega, ?_⟩
      · have F7 := (F6.grow (o' := .lst (acc ++ [v])) nP).wipe vs
        rw [hw] at F7
        exact F7
      · refine M.weak (m := lcLoop (lcBody vs g t e) (ds.drop (i + 1)) (wipeG Γ6 vs)) h fun q t h => ?_
        intro v' G' H' u F r
        refine h v' G' H' u F ?_
        rw [List.append_assoc] at r
        exact r
  · left
    have ei : i = ds.length := by omega
    subst ei
    rw [List.drop_length] at h
    refine ⟨okH.2 (Nat.le_refl _), ?_⟩
    obtain ⟨F3, m3, off3, e3⟩ := F2.back nP
    have F4 := F1.unwipe (vs := vs) u2 hc F3
    have h : ∀ v G' H', Sub G G' → Fr X.K T W P G' (backG Γp Γ2 vs) s2 σ H' → RR X.K T W P G' (backG Γp Γ2 vs) s2 σ H' v (.own (.lst (accD ++ []))) → Q v H' := h
    rw [List.append_nil] at h
    refine h _ G2 H2 (u1.trans u2) F4 (.own ⟨acc, e3, ra⟩ m3 fun j d z q => ?_)
    obtain ⟨F5, m5, off5, e5⟩ := (show Fr X.K T W (upd P Da (.lst acc)) G2 (backG Γp Γ2 vs) s2 σ H2 from (by
      obtain ⟨G0, _⟩ := (⟨G2, trivial⟩ : ∃ _ : Hp, True)
      refine ⟨⟨F4.wf.gh, F2.wf.ph, F2.wf.pg, F2.wf.pf, F4.wf.gf, F4.wf.w⟩, F4.len, F4.dat, fun j d z => ?_, F4.inj⟩
      rcases backG_get z with ⟨mm, zz⟩ | ⟨nn, zz⟩
      · exfalso
        cases qq : Γp[j]? with
        | none => rw [qq] at zz; cases zz
        | some sl => rw [qq] at zz; exact clearG_no hc mm (qq.trans (congrArg some zz.symm))
      · obtain ⟨b, h1, h2, h3⟩ := F2.own j d zz
        rw [wipe_out nn] at h1
        exact ⟨b, h1, h2, h3⟩)).back nP
    exact off5 j d z q
theorem de_lc {elt tg iter : Expr} {ifs : List Expr} {scope : Scope} {own : List (Str × Nat)} {g : IG} {w : TIv S} {t : TTv S} {e : TEv S} (hc : X.calm = true) (hN : X.N.Nodup) (hi : DI X T W tg iter w) (ok : BlkOk X.N X.env.scope scope own) (hv : ∀ i ∈ g.slots, i ∈ own.map (·.2))
    (hg : ∀ (s : Shared) (H : Hp) (C : Addr) (cl : List (Str × Addr)) (fp : List Addr), DG (X.blk s H scope (compEnvC scope cl C X.env) fp) tg g) (ht : ∀ (s : Shared) (H : Hp) (C : Addr) (cl : List (Str × Addr)) (fp : List Addr), DTs (X.blk s H scope (compEnvC scope cl C X.env) fp) T W ifs t)
    (he : ∀ (s : Shared) (H : Hp) (C : Addr) (cl : List (Str × Addr)) (fp : List Addr), DE (X.blk s H scope (compEnvC scope cl C X.env) fp) T W elt e) (hs : ∀ x, foldedSetIterable iter X.env x = pure x := by intro _; rfl) : DE X T W (.ListComp elt [⟨tg, iter, ifs, 0⟩] scope pos) (eLc (own.map (·.2)) g w t e) :=
  (pe_lc (g := tgOf X.K g) (tt := xT X.K T W t) (te := xE X.K T W e) hc hN hi ok hg ht he hs).weaken (le_lc hv)
theorem ds_setLc {i : Nat} {y : Str} {py spos : Pos} {elt tg iter : Expr} {ifs : List Expr} {scope : Scope} {own : List (Str × Nat)} {g : IG} {w : TIv S} {t : TTv S} {e : TEv S} (hc : X.calm = true) (hN : X.N.Nodup) (hy : X.N[i]? = some y) (hyl : X.env.scope.names.lookup y = some .local)
    (hsw : swapsWith (.ListComp elt [⟨tg, iter, ifs, 0⟩] scope pos) (some (.Name y py)) spos.line X.env = pure true) (hi : DI X T W tg iter w) (ok : BlkOk X.N X.env.scope scope own) (hv : ∀ i ∈ g.slots, i ∈ own.map (·.2))
    (hg : ∀ (s : Shared) (H : Hp) (C : Addr) (cl : List (Str × Addr)) (fp : List Addr), DG (X.blk s H scope (compEnvC scope cl C X.env) fp) tg g) (ht : ∀ (s : Shared) (H : Hp) (C : Addr) (cl : List (Str × Addr)) (fp : List Addr), DTs (X.blk s H scope (compEnvC scope cl C X.env) fp) T W ifs t)
    (he : ∀ (s : Shared) (H : Hp) (C : Addr) (cl : List (Str × Addr)) (fp : List Addr), DE (X.blk s H scope (compEnvC scope cl C X.env) fp) T W elt e) (hs : ∀ x, foldedSetIterable iter X.env x = pure x := by intro _; rfl) : DS X T W (.Assign [.Name y py] (.ListComp elt [⟨tg, iter, ifs, 0⟩] scope pos) spos) (cSet i (eLc (own.map (·.2)) g w t e)) :=
  (ps_setLc (g := tgOf X.K g) (tt := xT X.K T W t) (te := xE X.K T W e) hc hN hy hyl hsw hi ok hg ht he hs).weaken fun D0 σ H h => le_lc hv σ H _ (le_set h)
end
end Ev
/-! from E8.lean -/
set_option maxRecDepth 100000
set_option maxHeartbeats 4000000
/-! Ev, part 8: defs and their calls; nothing is being shown while they run (A.guards). -/
namespace Ev
open PySem PySem.Spec PyProof.Rows L2

/-- a def keeps its promise wherever nothing is being shown -/
structure FnG (prog : Program) (w : World) (K : PySem.W.Frag) (mg : Str → Option Value) (base : Heap) (CX : CXT) (k : Nat) (f : Addr) (fd : FuncData) (ps : List Str) (sp : Sp) : Prop where
  len : ∀ vs H Q E, sp vs H Q E → vs.length = ps.length
  run : ∀ (A : Around) (outer : List Env) (s : Shared) (H : Hp) (args : Args) (us : List Value) (vs : List V) (Q : VK) (E : XK), Room k A → A.guards = some [] → Env0 prog w K mg base A outer s H →
    BindsTo s fd args (ps.zip us) → Vals vs us → sp vs H Q E → codeAny (model prog w) A (.call (.ref f) args) (CR CX outer prog w H s Q E) s
section
variable {prog : Program} {w : World} {K : PySem.W.Frag} {mg : Str → Option Value} {base : Heap} {CX : CXT} {k : Nat} {f : Addr} {fd : FuncData} {ps : List Str} {sp : Sp}
theorem FnG.mono {j : Nat} (F : FnG prog w K mg base CX j f fd ps sp) (h : j ≤ k) : FnG prog w K mg base CX k f fd ps sp := ⟨F.len, fun A outer s H args us vs Q E r => F.run A outer s H args us vs Q E (r.mono h)⟩
theorem FnG.imp {sp' : Sp} (F : FnG prog w K mg base CX k f fd ps sp) (h : ∀ vs H Q E, sp' vs H Q E → sp vs H Q E) : FnG prog w K mg base CX k f fd ps sp' := ⟨fun vs H Q E q => F.len vs H Q E (h _ _ _ _ q), fun A outer s H args us vs Q E r g e b v q => F.run A outer s H args us vs Q E r g e b v (h _ _ _ _ q)⟩
/-- a promise of the library's own form is one of these -/
theorem FnG.of (F : FnOk prog w K mg base CX k f fd ps sp) : FnG prog w K mg base CX k f fd ps sp := ⟨F.len, fun A outer s H args us vs Q E r _ => F.run A outer s H args us vs Q E r⟩
end
theorem guards_deeper (A : Around) (env : Env) : (A.deeper env).guards = A.guards := rfl

section
variable {X : Cx} {CX : CXT} {k : Nat} {f : Addr} {fd : FuncData} {ps ks : List Str} {sp : Sp} {E : XK} {x : Str} {p pos : Pos} {e : Expr} {es : List Expr} {kws : List Keyword} {t tk : TA}
/-- a call that binds as it should -/
theorem callG {pins : List (Addr × Obj)} {σ : L2.St} {H : Hp} {s : Shared} {Q : VK} {us : List Value} {vs : List V} {args : Args} (F : FnG X.prog X.w X.K X.mg X.base CX k f fd ps sp) (hr : Room k X.A) (hg : X.A.guards = some []) (hx : Passes CX X E) (I : Inv X pins σ H s)
    (hb : BindsTo s fd args (ps.zip us)) (r : Vals vs us) (h : sp vs H Q E) : codeAny (model X.prog X.w) X.A (.call (.ref f) args) (fun r s' => match r with
      | .ok fl => ∃ u, fl = .ret u ∧ EP X pins σ Q u s'
      | .error e => X.xe e s') s :=
  codeAny_mono (F.run X.A X.stack s H args us vs Q E hr hg I.env0 hb r h) fun r s' hq => by
    cases r with
    | error e => exact hx pins σ H s e s' I hq
    | ok fl =>
      cases fl with
      | ret u => exact ⟨u, rfl, I.after hq⟩
      | _ => exact False.elim hq
theorem run_fnG {pins : List (Addr × Obj)} {σ : L2.St} {H : Hp} {s : Shared} {Q : VK} {us : List Value} {vs : List V} (F : FnG X.prog X.w X.K X.mg X.base CX k f fd ps sp) (hr : Room k X.A) (hg : X.A.guards = some []) (hb : Binds X.K fd ps []) (hx : Passes CX X E) (I : Inv X pins σ H s) (r : Vals vs us) (h : sp vs H Q E) :
    wpAny (model X.prog X.w) X.A (call (.ref f) us) (EP X pins σ Q) X.xe s := by
  have hl : us.length = ps.length := r.length ▸ F.len _ _ _ _ h
  have hb' := hb s us I.kIn (by rw [List.append_nil]; exact hl)
  rw [List.append_nil] at hb'
  refine wpAny_call (codeAny_mono (callG F hr hg hx I hb' r h) fun r s' hq => ?_)
  cases r with
  | error e => exact hq
  | ok fl =>
    obtain ⟨u, rfl, q⟩ := hq
    exact q
theorem pe_callG (F : FnG X.prog X.w X.K X.mg X.base CX k f fd ps sp) (hr : Room k X.A) (hgd : X.A.guards = some []) (hg : Gl X x) (hm : X.mg x = some (.ref f)) (hk : PySem.W.keepIn X.K (.ref f) = true) (hb : Binds X.K fd ps []) (hx : Passes CX X E) (ha : PA X (e :: es) t) (hdb : (x == ("__debug__" : Str)) = false)
    (he : starEach (e :: es) X.env = (false, eval e X.env) :: starEach es X.env) (hpl : (backTo pos (starEach es X.env)).any (·.1) = false) : PE X (.Call (.Name x p) (e :: es) [] pos) (fun σ H Q => t σ H fun vs H1 => sp vs H1 Q E) :=
  ⟨fun pins s σ H Q I h => wpAny_Call_Name_kw (ld_glob I hg hm (PySem.W.callWith_K (h₀ := X.base) I.ok.mod.kin hk (thn (ha.run pos pins s σ H _ I h) fun us s1 ⟨vs, H1, J, r, q⟩ => ⟨J.kIn, run_fnG F hr hgd hb hx J r q⟩) he hpl) hdb)⟩
theorem pe_callG0 (F : FnG X.prog X.w X.K X.mg X.base CX k f fd ps sp) (hr : Room k X.A) (hgd : X.A.guards = some []) (hg : Gl X x) (hm : X.mg x = some (.ref f)) (hk : PySem.W.keepIn X.K (.ref f) = true) (hb : Binds X.K fd ps []) (hx : Passes CX X E) (hdb : (x == ("__debug__" : Str)) = false) :
    PE X (.Call (.Name x p) [] [] pos) (fun σ H Q => sp [] H Q E) :=
  ⟨fun pins s σ H Q I h => wpAny_Call_Name_kw (ld_glob I hg hm (PySem.W.callWith_K0 I.kIn hk (run_fnG (us := []) F hr hgd hb hx I .nil h)) hdb)⟩
/-- keywords behind the written arguments -/
theorem pe_callGK {g : List Value → List Value → List Value} {gV : List V → List V → List V} (F : FnG X.prog X.w X.K X.mg X.base CX k f fd ps sp) (hr : Room k X.A) (hgd : X.A.guards = some []) (hg : Gl X x) (hm : X.mg x = some (.ref f)) (hk : PySem.W.keepIn X.K (.ref f) = true) (hb : KBinds X.K fd ps ks g gV) (hx : Passes CX X E)
    (ha : PA X es t) (hkw : PK X kws tk) (hall : (backToKw pos (keywordEach kws X.env)).all (·.1.isSome) = true) (hks : (backToKw pos (keywordEach kws X.env)).filterMap (·.1) = ks) (hdb : (x == ("__debug__" : Str)) = false)
    (hcw : ∀ {pins : List (Addr × Obj)} {σ : L2.St} {s : Shared} {H : Hp} {Q : Value → Shared → Prop}, Inv X pins σ H s → wpAny (model X.prog X.w) X.A (spliced (backTo pos (starEach es X.env))) (fun us s1 => wpAny (model X.prog X.w) X.A (evalAll ((backToKw pos (keywordEach kws X.env)).map (·.2))) (fun ws s2 => X.K.In s2.heap ∧ wpAny (model X.prog X.w) X.A (call (.ref f) us (ks.zip ws)) Q X.xe s2) X.xe s1) X.xe s →
      wpAny (model X.prog X.w) X.A (callWith pos (.ref f) [] (backTo pos (starEach es X.env)) (backToKw pos (keywordEach kws X.env))) Q X.xe s) :
    PE X (.Call (.Name x p) es kws pos) (fun σ H Q => t σ H fun vs H1 => tk σ H1 fun zs H2 => sp (gV vs zs) H2 Q E) :=
  ⟨fun pins s σ H Q I h => wpAny_Call_Name_kw (ld_glob I hg hm (hcw I (thn (ha.run pos pins s σ H _ I h) fun us s1 ⟨vs, H1, J, r, q⟩ => thn (hkw.run pos pins s1 σ H1 _ J q) fun ws s2 ⟨zs, H2, J2, rz, q2⟩ => ⟨J2.kIn, by
    have r2 := hb.rel r rz
    have hl : (g us ws).length = ps.length := r2.length ▸ F.len _ _ _ _ q2
    refine wpAny_call (codeAny_mono (callG F hr hgd hx J2 (hb.to s2 us ws J2.kIn hl) r2 q2) fun r s' hq => ?_)
    cases r with
    | error e => exact hq
    | ok fl =>
      obtain ⟨u, rfl, q⟩ := hq
      exact q⟩)) hdb)⟩
end

/-- a def of the text, by its body: as fn_of of the library, and nothing is being shown -/
theorem fn_ofG {CX : CXT} {prog : Program} {w : World} {K : PySem.W.Frag} {mg : Str → Option Value} {base : Heap} {k : Nat} {f : Addr} {name qual : Str} {params : Arguments} {body : List Stmt} {scope : Scope} {dV kV doc pm cdv ct oc : Value} {an od : Option Addr}
    {osl : Array (Option Value)} {N ps : List Str} {sp : Sp} (lk : K.lookup f = some ⟨oc, od, .func (PySem.W.fnOf name qual params body scope dV kV doc pm an cdv ct), osl⟩) (hcd : PySem.W.codeIn K cdv qual = true) (S : FnScope N ps scope) (len : ∀ vs H Q E, sp vs H Q E → vs.length = ps.length)
    (hbody : ∀ (A : Around) (outer : List Env) (s : Shared) (H : Hp) (vs : List V) (Q : VK) (E : XK), Room k (A.deeper (envOfC qual scope s.heap.objs.size f cdv)) → (A.deeper (envOfC qual scope s.heap.objs.size f cdv)).guards = some [] → sp vs H Q E →
      ∃ t, PSs (cxOf CX prog w K mg base N qual scope f cdv A outer s H E) body t ∧ t { nx := fun _ H' => Q .non H', rt := Q } (start N vs) H) :
    FnG prog w K mg base CX (k + 1) f (PySem.W.fnOf name qual params body scope dV kV doc pm an cdv ct) ps sp := ⟨len, fun A outer s H args us vs Q E hr hgd e0 hb r hsp => by
  have KX : K.In s.heap := e0.mod.kin.keeps fun b o e => (e0.bs b o e).1
  have lim : s.heap.NoLimit := e0.mod.nolimit.keeps fun b o e => (e0.bs b o e).1
  refine codeAny_call_function hr.depth (KX _ _ lk) rfl S.co S.gen rfl (PySem.W.codeRec_of KX hcd) (hb _ _ _ _ (wpAny_newFunctionEnv_cells S.kind (fun ⟨n, v⟩ hy => ?_) fun env he s1 x => ?_))
  · rcases S.par n (List.of_mem_zip hy).1 with q | q
    · exact .inl q
    · exact .inr ⟨q, PySem.W.cellsFrom_some _ _ _ (.inl q)⟩
  · subst he
    obtain ⟨t, ht, hq⟩ := hbody A outer s H vs Q E (hr.deeper _) hgd hsp
    have I := inv_start (CX := CX) (E := E) S hr.hd e0 (len _ _ _ _ hsp) r x
    refine ⟨lim.keeps x.toInCall.keep, codeAny_func (wpAny_mono (ht.run [] s1 (start N vs) H _ I hq) (fun fl s' hs => ?_) fun e s' hs => hs)⟩
    cases fl with
    | ret u =>
      obtain ⟨v, σ', H', J, rv, q⟩ := hs
      exact ⟨v, H', J.os, J.bare, J.base, J.hok, rv, q⟩
    | next =>
      obtain ⟨σ', H', J, q⟩ := hs
      exact ⟨.non, H', J.os, J.bare, J.base, J.hok, rfl, q⟩
    | brk => exact hs.elim fun _ z => z.elim fun _ z => z.2.elim
    | cont => exact hs.elim fun _ z => z.elim fun _ z => z.2.elim⟩

/-! ### promises by what is computed -/
section
variable {S : Type}
/-- F's promise: n arguments that are frozen data; what is not its own stays -/
def spF (K : PySem.W.Frag) (T : Nat → Option Addr) (W : Wd S) (n : Nat) (F : List D → M S D) : Sp := fun vs H Q _ => ∃ P G ds s, Wf W P G s H ∧ DRs K T G vs ds ∧ ds.length = n ∧ (F ds).run s (fun d s' => ∀ v G' H', Sub G G' → Wf W P G' s' H' → DR K T G' v d → Q v H') noX
theorem spF.len {K : PySem.W.Frag} {T : Nat → Option Addr} {W : Wd S} {n : Nat} {F : List D → M S D} (vs : List V) (H : Hp) (Q : VK) (E : XK) (h : spF K T W n F vs H Q E) : vs.length = n := by
  obtain ⟨P, G, ds, s, _, r, e, _⟩ := h
  exact r.length.trans e
/-- errors: none leaves -/
def CX0 : CXT := fun _ _ _ _ _ _ => False
theorem passes0 {X : Cx} {E : XK} : Passes CX0 X E := fun _ _ _ _ _ _ _ h => h.elim

variable {K : PySem.W.Frag} {T : Nat → Option Addr} {W : Wd S} {P G H : Hp} {Γ : List Sl} {s : S} {σ : L2.St}
open Classical in
/-- what a callee must leave as it is: the caller's own objects too -/
noncomputable def keepO (P : Hp) (Γ : List Sl) (σ : L2.St) (H : Hp) : Hp := fun a => if ∃ (i : Nat) (d : D), Γ[i]? = some (Sl.own d) ∧ σ[i]? = some (some (V.ref a)) then H a else P a
theorem keepO_own {a : Addr} {i : Nat} {d : D} (e : Γ[i]? = some (.own d)) (q : σ[i]? = some (some (.ref a))) : keepO P Γ σ H a = H a := if_pos ⟨i, d, e, q⟩
theorem Fr.call (F : Fr K T W P G Γ s σ H) : Wf W (keepO P Γ σ H) G s H := by
  have at_ : ∀ {a : Addr} {o : HO}, keepO P Γ σ H a = some o → (H a = some o ∧ Mine W P G s a) ∨ P a = some o := fun {a o} e => by
    unfold keepO at e
    split at e
    · rename_i h
      obtain ⟨i, d, h1, h2⟩ := h
      obtain ⟨b, h3, _, m⟩ := F.own i d h1
      rw [h2] at h3; cases h3
      exact .inl ⟨e, m⟩
    · exact .inr e
  refine ⟨F.wf.gh, fun a o e => ?_, fun a o e => ?_, fun a o e => ?_, F.wf.gf, F.wf.w⟩ <;> rcases at_ e with ⟨h, m⟩ | h
  · exact h
  · exact F.wf.ph a o h
  · exact m.g
  · exact F.wf.pg a o h
  · exact m.f
  · exact F.wf.pf a o h
theorem Fr.back_call (F : Fr K T W P G Γ s σ H) {G' H' : Hp} {s' : S} (u : Sub G G') (w : Wf W (keepO P Γ σ H) G' s' H') : Fr K T W P G' Γ s' σ H' := by
  have sub : Sub P (keepO P Γ σ H) := fun a o e => by
    unfold keepO
    split
    · rename_i h
      obtain ⟨i, d, h1, h2⟩ := h
      obtain ⟨b, h3, _, m⟩ := F.own i d h1
      rw [h2] at h3; cases h3
      rw [m.p] at e; cases e
    · exact e
  refine ⟨⟨w.gh, fun a o e => w.ph a o (sub a o e), fun a o e => w.pg a o (sub a o e), fun a o e => w.pf a o (sub a o e), w.gf, w.w⟩, F.len, fun i d e => ?_, fun i d e => ?_, F.inj⟩
  · obtain ⟨v, h1, h2⟩ := F.dat i d e
    exact ⟨v, h1, h2.mono u⟩
  · obtain ⟨a, h1, h2, m⟩ := F.own i d e
    obtain ⟨o, ho⟩ := h2.there
    have k : keepO P Γ σ H a = some o := (keepO_own e h1).trans ho
    exact ⟨a, h1, h2.mono u ((w.ph a o k).trans ho.symm), w.pg a o k, m.p, w.pf a o k⟩
theorem le_call {K : PySem.W.Frag} {F : List D → M S D} {n : Nat} {ms : TEs S} {E : XK} (hn : ∀ (Γ : List Sl) (s : S) (Q : List Rv × List Sl → S → Prop), (ms Γ).run s Q noX → (ms Γ).run s (fun p s' => Q p s' ∧ p.1.length = n) noX) (σ : L2.St) (H : Hp) (Q : VK) :
    xE K T W (eCall F ms) σ H Q → xA K T W ms σ H fun vs H1 => spF K T W n F vs H1 Q E := fun ⟨P, G, Γ, s, Fr0, h⟩ => by
  refine xA.by Fr0 (M.weak (hn Γ s _ h) fun p s1 ⟨h, hlen⟩ vs G1 H1 u1 F1 o1 => ?_)
  obtain ⟨⟨ds, Γ2⟩, e, h⟩ := opt_run h
  obtain ⟨G2, u2, F2, r⟩ := OPs.frz F1 o1 e
  have l2 : ds.length = n := by
    have : ∀ {rs : List Rv} {Γ Γ' : List Sl} {ds : List D}, frzs Γ rs = some (ds, Γ') → ds.length = rs.length := fun {rs} => by
      induction rs with
      | nil => intro Γ Γ' ds e; cases e; rfl
      | cons r rs ih =>
        intro Γ Γ' ds e
        unfold frzs at e
        split at e
        · split at e
          · rename_i e2
            cases e
            rw [List.length_cons, List.length_cons, ih e2]
          · cases e
        · cases e
    rw [this e, hlen]
  exact ⟨_, G2, ds, s1, F2.call, r, l2, M.weak (m := F ds) h fun d s2 h v G3 H3 u3 w3 dr => h v G3 H3 (u1.trans (u2.trans u3)) (F2.back_call u3 w3) (.dat dr)⟩
theorem lenN : ∀ (Γ : List Sl) (s : S) (Q : List Rv × List Sl → S → Prop), ((sNil : TEs S) Γ).run s Q noX → ((sNil : TEs S) Γ).run s (fun p s' => Q p s' ∧ p.1.length = 0) noX := fun Γ s Q h => ⟨h, rfl⟩
theorem lenC {a : TEv S} {ms : TEs S} {n : Nat} (hn : ∀ (Γ : List Sl) (s : S) (Q : List Rv × List Sl → S → Prop), (ms Γ).run s Q noX → (ms Γ).run s (fun p s' => Q p s' ∧ p.1.length = n) noX) :
    ∀ (Γ : List Sl) (s : S) (Q : List Rv × List Sl → S → Prop), (sCons a ms Γ).run s Q noX → (sCons a ms Γ).run s (fun p s' => Q p s' ∧ p.1.length = n + 1) noX := fun Γ s Q h =>
  M.weak (m := a Γ) h fun p s1 h => M.weak (m := ms p.2) (hn p.2 s1 (fun q t => Q (opd p.1 :: q.1, q.2) t) h) fun q s2 h => ⟨h.1, congrArg (· + 1) h.2⟩
end

/-- what is known of a def that may be called by its name x -/
structure Callee {S : Type} (X : Cx) (T : Nat → Option Addr) (W : Wd S) (x : Str) (n : Nat) (F : List D → M S D) : Prop where
  ex : ∃ (k : Nat) (f : Addr) (fd : FuncData) (ps : List Str), FnG X.prog X.w X.K X.mg X.base CX0 k f fd ps (spF X.K T W n F) ∧ Room k X.A ∧ X.mg x = some (.ref f) ∧ PySem.W.keepIn X.K (.ref f) = true ∧ Binds X.K fd ps []
section
variable {S : Type} {X : Cx} {T : Nat → Option Addr} {W : Wd S} {ea : Expr} {es : List Expr} {ms : TEs S} {a : TEv S} {x : Str} {p pos : Pos} {n : Nat} {F : List D → M S D}
theorem de_call (hgd : X.A.guards = some []) (c : Callee X T W x n F) (hg : Gl X x) (ha : DA X T W (ea :: es) ms) (hn : ∀ (Γ : List Sl) (s : S) (Q : List Rv × List Sl → S → Prop), (ms Γ).run s Q noX → (ms Γ).run s (fun p s' => Q p s' ∧ p.1.length = n) noX) (hdb : (x == ("__debug__" : Str)) = false := by decide)
    (he : starEach (ea :: es) X.env = (false, eval ea X.env) :: starEach es X.env := by rfl) (hpl : (backTo pos (starEach es X.env)).any (·.1) = false := by rfl) : DE X T W (.Call (.Name x p) (ea :: es) [] pos) (eCall F ms) := by
  obtain ⟨k, f, fd, ps, Fo, hr, hm, hk, hb⟩ := c.ex
  exact (pe_callG (E := fun _ _ _ => False) Fo hr hgd hg hm hk hb passes0 ha hdb he hpl).weaken (le_call hn)
theorem de_call0 (hgd : X.A.guards = some []) (c : Callee X T W x 0 F) (hg : Gl X x) (hdb : (x == ("__debug__" : Str)) = false := by decide) : DE X T W (.Call (.Name x p) [] [] pos) (eCall F sNil) := by
  obtain ⟨k, f, fd, ps, Fo, hr, hm, hk, hb⟩ := c.ex
  exact (pe_callG0 (E := fun _ _ _ => False) Fo hr hgd hg hm hk hb passes0 hdb).weaken fun σ H Q h => by
    obtain ⟨P, G, Γ, s, F0, h⟩ := le_call (E := fun _ _ _ => False) lenN σ H Q h
    exact h [] G H (Sub.refl _) F0 True.intro
end

/-! ### a def by its body -/
section
variable {S : Type} {K : PySem.W.Frag} {T : Nat → Option Addr} {W : Wd S} {P G H : Hp} {s : S}
theorem Fr.start {N : List Str} {vs : List V} {ds : List D} (w : Wf W P G s H) (r : DRs K T G vs ds) (hl : ds.length ≤ N.length) : Fr K T W P G (ds.map Sl.dat ++ List.replicate (N.length - ds.length) .no) s (start N vs) H := by
  have len := r.length
  have no : ∀ {i : Nat} {d : D}, (ds.map Sl.dat ++ List.replicate (N.length - ds.length) Sl.no)[i]? ≠ some (.own d) := fun {i d} e => by
    by_cases h : i < ds.length
    · rw [List.getElem?_append_left (by simpa using h), List.getElem?_map] at e
      cases q : ds[i]? with
      | none => rw [q] at e; cases e
      | some u => rw [q] at e; cases e
    · rw [List.getElem?_append_right (by simpa using h), List.getElem?_replicate] at e
      split at e <;> cases e
  refine ⟨w, ?_, fun i d e => ?_, fun i d e => (no e).elim, fun i j d1 d2 a e1 => (no e1).elim⟩
  · unfold L2.start
    rw [List.length_append, List.length_append, List.length_map, List.length_map, List.length_replicate, List.length_replicate, len]
  · unfold L2.start
    by_cases h : i < ds.length
    · rw [List.getElem?_append_left (by simpa using h), List.getElem?_map] at e
      cases q : ds[i]? with
      | none => rw [q] at e; cases e
      | some u =>
        rw [q] at e; cases e
        obtain ⟨v, h1, h2⟩ := r.get q
        refine ⟨v, ?_, h2⟩
        rw [List.getElem?_append_left (by rw [List.length_map, len]; exact h), List.getElem?_map, h1]; rfl
    · rw [List.getElem?_append_right (by simpa using h), List.getElem?_replicate] at e
      split at e <;> cases e
theorem fn_run {prog : Program} {w : World} {mg : Str → Option Value} {base : Heap} {k : Nat} {f : Addr} {name qual : Str} {params : Arguments} {body : List Stmt} {scope : Scope} {dV kV doc pm cdv ct oc : Value} {an od : Option Addr} {osl : Array (Option Value)} {N ps : List Str} {b : TSv S}
    (lk : K.lookup f = some ⟨oc, od, .func (PySem.W.fnOf name qual params body scope dV kV doc pm an cdv ct), osl⟩) (hcd : PySem.W.codeIn K cdv qual = true) (S0 : FnScope N ps scope)
    (hbody : ∀ (A : Around) (outer : List Env) (s : Shared) (H : Hp) (E : XK), Room k (A.deeper (envOfC qual scope s.heap.objs.size f cdv)) → (A.deeper (envOfC qual scope s.heap.objs.size f cdv)).guards = some [] → DSs (cxOf CX0 prog w K mg base N qual scope f cdv A outer s H E) T W body b) :
    FnG prog w K mg base CX0 (k + 1) f (PySem.W.fnOf name qual params body scope dV kV doc pm an cdv ct) ps (spF K T W ps.length (runD N.length b)) :=
  fn_ofG lk hcd S0 spF.len fun A outer s H vs Q E hr hg ⟨P, G, ds, st, w0, r, hl, h⟩ => by
    have hpl : ps.length ≤ N.length := by have := congrArg List.length S0.pre; rw [List.length_take] at this; omega
    refine ⟨_, hbody A outer s H E hr hg, xS.by (Fr.start (N := N) w0 r (hl ▸ hpl)) (M.weak (m := b (ds.map Sl.dat ++ List.replicate (N.length - ds.length) Sl.no)) h fun f s1 h => ?_)⟩
    cases f with
    | nx Γ => exact fun σ G' H' u F => h .non G' H' u F.wf .non
    | rt d => exact h
    | _ => exact h.elim
end
end Ev
/-! from E9.lean -/
set_option maxRecDepth 100000
set_option maxHeartbeats 4000000
/-! Ev, part 9: all(.. for .. in ..), its frame. -/
namespace Ev
open PySem PySem.Spec PyProof.Rows L2

/-- a generator expression's scope: its own names with their slots, the captured ones -/
structure GenOk (N : List Str) (sc scope : Scope) (own : List (Str × Nat)) : Prop where
  kind : scope.kind = .function
  co : scope.isCoroutine = false
  nocell : ∀ y ∈ scope.names, y.2 ≠ .cell
  dot : scope.names.lookup (".0" : Str) = some NameKind.local
  uniq : ∀ y ∈ scope.names, scope.names.lookup y.1 = some y.2
  ix : ∀ p ∈ own, N[p.2]? = some p.1
  free : ∀ y ∈ scope.names, y.2 = .free → sc.names.lookup y.1 = some .cell ∨ sc.names.lookup y.1 = some .free
  own : ∀ y ∈ scope.names, y.2 = .local → y.1 ∈ own.map (·.1) ∨ y.1 ∉ N
/-- the context of its frame -/
abbrev genX (X : Cx) (s : Shared) (H : Hp) (cenv : Env) (fp : List Addr) (pn : List (Addr × Obj)) (Ag : Around) : Cx :=
  { X with s_0 := s, H_0 := H, env := cenv, outer := X.stack, stack := cenv :: X.stack, ex := fp, fn := fun _ => false, pn := pn, xe := fun _ _ => False, A := Ag }
section
variable {X : Cx} {pins : List (Addr × Obj)} {σ : L2.St} {H : Hp} {s : Shared}
theorem GenOk.clo {scope : Scope} {own : List (Str × Nat)} (ok : GenOk X.N X.env.scope scope own) (I : Inv X pins σ H s) : ∀ y ∈ scope.names, y.2 = .free → ∃ c, X.env.cells.lookup y.1 = some c := fun y hy e => by
  rcases ok.free y hy e with k | k
  · exact I.ok.has _ (.inl k)
  · exact I.ok.has _ (.inr k)
/-- the code object is found or made; the def's table may have grown -/
theorem gen_code {c P : Addr} {ps : Array Value} {gpos : Pos} {scope : Scope} {Q : Value → Addr → Shared → Prop} (TB : GxR.TabB X.base X.mg c P) (hcode : X.env.code = .ref c) (I : Inv X pins σ H s) (hP : H P = some (.tbl ps)) (ht : TriplesOk ps.toList)
    (h : ∀ (code : Value) (ps' : Array Value) (s' : Shared), TriplesOk ps'.toList → Inv X pins σ (upd H P (.tbl ps')) s' → (∀ b o, b ≠ P → s.heap.get? b = some o → s'.heap.get? b = some o) → Q code builtinsNs s') :
    wpAny (model X.prog X.w) X.A (genexprCode X.env gpos (X.env.qual ++ "<genexpr>") scope) (fun code s₃ => wpAny (model X.prog X.w) X.A (builtinsFor X.env.globals X.env.builtins) (fun bi s₄ => Q code bi s₄) X.xe s₃) X.xe s := by
  have hPs : s.heap.get? P = some { cls := .none, data := .fields ps } := I.hok P _ hP
  have cd : PySem.W.CodeHd s.heap c P := TB.code.keeps fun b u e => I.bk b u e
  have cont : ∀ (code : Value) (h3 : Heap) (tk : Nat) (more : Array Value), Heap.ExtBut P s.heap h3 → h3.get? P = some { cls := .none, data := .fields (ps ++ more) } → TriplesOk (ps ++ more).toList →
      wpAny (model X.prog X.w) X.A (builtinsFor X.env.globals X.env.builtins) (fun bi s₄ => Q code bi s₄) X.xe { s with heap := h3, toks := tk } := fun code h3 tk more hx hP3 ht3 => by
    obtain ⟨bm, ob, e1, e2, e3, e4, e5, e6, e7, e8⟩ := TB.bm
    refine wpAny_builtinsFor (m := X.mg) (by rw [I.ok.glob]; exact (I.mod.glob.keeps I.bk).extBut hx TB.gP) e1 e2 (hx _ _ e4 (I.bk _ _ e5)) e6 e7 e8 ?_
    exact h code _ _ ht3 (GxR.inv_tab (more := more) (h' := h3) (g' := s.gens) (d' := s.drawn) (t' := tk) I hP (fun b u hb e => hx b u hb e) hP3 I.bare) fun b o hb e => hx b o hb e
  cases hf : codeAmong gpos ps.toList with
  | none =>
    refine wpAny_genexprCodeX hcode (cd.code hPs ht) (cd.tab hPs) hf fun c' h' tk hx hge hlt hco' _ htab' _ => ?_
    obtain ⟨o1, vs, f1, tf, fl, tg, inF, tx, tt, op, _, _, _, _, _, _, _, _, _, htr, _⟩ := hco'
    exact cont _ h' tk _ hx htab'.2 htr
  | some cv =>
    refine wpAny_genexprCode_hit hcode (cd.code hPs ht) hf ?_
    exact cont cv s.heap s.toks #[] (Heap.ExtBut.refl _ _) (by rw [Array.append_empty]; exact hPs) (by rw [Array.append_empty]; exact ht)
/-- the frame stands -/
theorem gen_start {scope : Scope} {own : List (Str × Nat)} {fp : List Addr} {cenv : Env} {cl : List (Str × Addr)} {code : Value} {ga : Addr} {go : Obj} {m : Str → Option Value} {s5 : Shared} {Ag : Around} (I : Inv X pins σ H s) (ok : GenOk X.N X.env.scope scope own) (hN : X.N.Nodup)
    (hfp : ∀ b ∈ fp, FpOk X pins H b ∧ b < s.heap.objs.size) (hcl : cl = cloFrom X.env.cells scope.names []) (hce : cenv = genEnv scope cl s.heap.objs.size code builtinsNs X.env) (hos : s5.os = s.os) (hbare : AllBare s5.gens) (hk : ∀ b o, s.heap.get? b = some o → s5.heap.get? b = some o)
    (hns : s5.heap.Ns s.heap.objs.size m) (hga : s5.heap.get? ga = some go) (hlt : s.heap.objs.size < ga) (hgd : ∀ v, go.data ≠ .cell v) (hh : X.calm = true → Ag.handled = none) (hfr : Ag.frames = some (cenv :: X.stack)) :
    Inv (genX X s H cenv fp [(ga, go)] Ag) [] (L2.wipe σ (own.map (·.2))) H s5 := by
  have cm : ∀ {y : Str} {c : Addr}, cl.lookup y = some c → X.env.cells.lookup y = some c ∧ (y, NameKind.free) ∈ scope.names := fun {y c} e => by
    have hm := PySem.mem_of_lookup e
    rw [hcl] at hm
    rcases cloFrom_mem hm with hm | ⟨h1, rfl⟩
    · cases hm
    · obtain ⟨c, hc⟩ := ok.clo I _ h1 rfl
      rw [hc]
      exact ⟨rfl, h1⟩
  have has : ∀ {y : Str}, (y, NameKind.free) ∈ scope.names → ∃ c, cl.lookup y = some c := fun {y} hy => by
    obtain ⟨c, e⟩ := mem_lookup (cloFrom_has (cells := X.env.cells) (acc := []) hy)
    exact ⟨c, by rw [hcl]; exact e⟩
  have eL : cenv.locals = s.heap.objs.size := by rw [hce]; rfl
  have eS : cenv.scope = scope := by rw [hce]; rfl
  have eC : cenv.cells = cl := by rw [hce]; rfl
  have kind : ∀ y k, cenv.kindOf y = some k → (y, k) ∈ scope.names := fun y k e => by
    have e' : cenv.scope.names.lookup y = some k := e
    rw [eS] at e'
    exact PySem.mem_of_lookup e'
  have cellX : ∀ {y : Str} {c : Addr}, cl.lookup y = some c → ∃ v, s.heap.IsCell c v ∧ H c = none := fun {y c} e => by
    obtain ⟨v, z⟩ := I.cell y c (cm e).1
    exact ⟨v, z, I.freeC y c (cm e).1⟩
  have nofs : ∀ b ∈ fp, b ∉ frs X.stack := fun b hb z => by
    rcases List.mem_cons.mp (I.stkSub b z) with z | z
    · exact (hfp b hb).1.2.1 z
    · exact (hfp b hb).1.2.2.1 z
  refine ⟨⟨I.ok.mod, by show cenv.scope.kind = _; rw [eS]; exact ok.kind, by show cenv.globals = _; rw [hce]; exact I.ok.glob, by show cenv.builtins = _; rw [hce]; rfl, by show s.heap.objs.size ≤ cenv.locals; rw [eL]; exact Nat.le_refl _,
    fun x y c e1 e2 => ?_, fun x hx => ?_, fun x c hf => (nomatch hf), hh, hfr, .inr ⟨rfl, by show cenv.frame = some cenv.locals; rw [hce]; rfl⟩, fun b hb => ⟨?_, fun x c e z => ?_⟩, I.bs, Nat.le_trans I.ok.bsz I.sz, fun b o e hb => ?_, fun b hb => nofs b hb, I.stack, I.stkFree⟩,
    hos, hbare, Un.kept hk, ⟨m, by show s5.heap.Ns cenv.locals m; rw [eL]; exact hns, fun i x v e1 e2 e3 => ?_⟩, fun x c e => ?_, ?_, fun x c e => ?_, fun p hp => ?_, I.hok.kept hk, by rw [wipe_length]; exact I.len⟩
  · have e1 : cenv.cells.lookup x = some c := e1
    have e2 : cenv.cells.lookup y = some c := e2
    rw [eC] at e1 e2
    exact I.ok.inj x y c (cm e1).1 (cm e2).1
  · show ∃ c, cenv.cells.lookup x = some c
    rw [eC]
    rcases hx with hx | hx
    · exact absurd rfl (ok.nocell _ (kind x _ hx))
    · exact has (kind x _ hx)
  · show b ≠ cenv.locals
    rw [eL]; exact Nat.ne_of_lt (hfp b hb).2
  · have e : cenv.cells.lookup x = some c := e
    rw [eC] at e
    exact (hfp b hb).1.2.2.2.2.1 x c (cm e).1 z
  · rcases (hfp b hb).1.2.2.2.1 with z | z
    · exact I.ok.noex b o e z
    · exact absurd (Nat.lt_of_lt_of_le (Heap.lt_size e) (Nat.le_trans I.ok.bsz z)) (Nat.lt_irrefl _)
  · obtain ⟨e2, hne⟩ := wipe_some e2
    have fr : (x, NameKind.free) ∈ scope.names := by
      have notl : (x, NameKind.local) ∉ scope.names := fun hm => by
        rcases ok.own _ hm rfl with hm | hm
        · obtain ⟨p, hp, ep⟩ := List.mem_map.mp hm
          have := nodup_ix hN (ok.ix p hp) (show X.N[i]? = some p.1 by rw [show p.1 = x from ep]; exact e1)
          exact hne (this ▸ List.mem_map.mpr ⟨p, hp, rfl⟩)
        · exact hm (List.mem_of_getElem? e1)
      rcases e3 with k | k | k
      · exact absurd (kind x _ k) notl
      · exact absurd rfl (ok.nocell _ (kind x _ k))
      · exact kind x _ k
    obtain ⟨m0, hn0, hl⟩ := I.loc
    have vis : Vis X.env.scope x := by
      rcases ok.free _ fr rfl with k | k
      · exact .inr (.inl k)
      · exact .inr (.inr k)
    obtain ⟨u, r, l⟩ := hl i x v e1 e2 vis
    obtain ⟨c, hc⟩ := has fr
    refine ⟨u, r, .inr ⟨.inr (by show cenv.scope.names.lookup x = _; rw [eS]; exact ok.uniq _ fr), c, by show cenv.cells.lookup x = _; rw [eC]; exact hc, ?_⟩⟩
    rcases l with ⟨k, _⟩ | ⟨_, c', h1, o, ho, hd⟩
    · rcases ok.free _ fr rfl with q | q
      · have k' : X.env.scope.names.lookup x = some .local := k
        rw [q] at k'; cases k'
      · have k' : X.env.scope.names.lookup x = some .local := k
        rw [q] at k'; cases k'
    · rw [(cm hc).1] at h1; cases h1
      exact ⟨o, hk _ _ ho, hd⟩
  · have e : cenv.cells.lookup x = some c := e
    rw [eC] at e
    obtain ⟨v, ⟨o, ho, hd⟩, _⟩ := cellX e
    exact ⟨v, o, hk _ _ ho, hd⟩
  · show H cenv.locals = none
    rw [eL]; exact I.hok.fresh (Nat.le_refl _)
  · have e : cenv.cells.lookup x = some c := e
    rw [eC] at e
    obtain ⟨v, _, n⟩ := cellX e
    exact n
  · have e : p = (ga, go) := by simpa using hp
    subst e
    refine ⟨hga, I.hok.fresh (Nat.le_of_lt hlt), by show ga ≠ cenv.locals; rw [eL]; exact Nat.ne_of_gt hlt, fun z => ?_, hgd⟩
    have z : ga ∈ frs X.stack := z
    rcases List.mem_cons.mp (I.stkSub _ z) with z | z
    · rw [z] at hlt
      exact absurd (Nat.lt_trans I.lt hlt) (Nat.lt_irrefl _)
    · exact I.nofs (Nat.le_of_lt hlt) z
theorem Inv.gens {G : Array GenState} (I : Inv X pins σ H s) (h : AllBare G) : Inv X pins σ H { s with gens := G } := ⟨I.ok, I.os, h, I.base, I.loc, I.cell, I.free, I.freeC, I.pin, I.hok, I.len⟩
end
end Ev
/-! from E10.lean -/
set_option maxRecDepth 100000
set_option maxHeartbeats 4000000
/-! Ev, part 10: all(.. for .. in ..): the generator's turns and who asks for them. -/
namespace Ev
open PySem PySem.Spec PyProof.Rows L2

/-- what the generator hands out: a bool; asked again only behind a true one -/
def YG (Y : Cx) (Fin : Bool → Hp → Prop) : Protocol := fun _ _ v s kap => ∃ b σ H, v = Value.bool b ∧ Inv Y [] σ H s ∧ (b = false → Fin false H) ∧ (b = true → ∀ G, AllBare G → kap (.send .none) { s with gens := G })
def RGP (Y : Cx) (Fin : Bool → Hp → Prop) : Nat → Shared → Shared → Prop := fun _ _ s => ∃ σ H, Inv Y [] σ H s ∧ Fin true H
abbrev RG (Y : Cx) (Fin : Bool → Hp → Prop) : GenEnd := fun n s₀ r s => r = .ok .next ∧ RGP Y Fin n s₀ s

section
variable {S : Type} {Y : Cx} {T : Nat → Option Addr} {W : Wd S} {P G1 : Hp} {A : Around} {vs : List Nat} {σw : L2.St} {Fin : Bool → Hp → Prop}
/-- what is wanted behind the generator -/
def AllK (Y : Cx) (T : Nat → Option Addr) (W : Wd S) (P G1 : Hp) (vs : List Nat) (σw : L2.St) (Fin : Bool → Hp → Prop) (r : Bool × List Sl) (st : S) : Prop :=
  ∀ G' σ' H', Sub G1 G' → Fr Y.K T W P G' r.2 st σ' H' → L2.wipe σ' vs = σw → Fin r.1 H'
theorem fpY {fp : List Addr} (hfp : ∀ b ∈ fp, b ∈ Y.ex) (hpn : ∀ p ∈ Y.pn, p.1 ∉ Y.ex) {σ : L2.St} {H : Hp} {s : Shared} (I : Inv Y [] σ H s) (n : ∀ b ∈ fp, H b = none) : ∀ b ∈ fp, FpOk Y [] H b := fun b hb =>
  ⟨n b hb, (I.ok.exf b (hfp b hb)).1, I.ok.exfs b (hfp b hb), .inl (hfp b hb), fun x c e => (I.ok.exf b (hfp b hb)).2 x c e, fun p hp z => hpn p (by simpa using hp) (z ▸ hfp b hb)⟩
theorem same_wipe {us vs : List Nat} {σ σ' : L2.St} (b : SameBut us σ σ') (h : ∀ i ∈ us, i ∈ vs) (e : L2.wipe σ vs = σw) : L2.wipe σ' vs = σw := (b vs h).trans e
/-- the turns of one clause -/
theorem seg_all {elt iter tg : Expr} {scope : Scope} {pos : Pos} {it : Addr} {fp : List Addr} {tn : Nat → Heap → Prop} {J : It} {g : IG} {e : TEv S} {ds : List D}
    (hA : A.over (.compLoop (.GeneratorExp elt [⟨tg, iter, [], 0⟩] scope pos) 0 (.ref it) .none Y.env) [] = Y.A) (hco : Y.env.scope.isCoroutine = false) (hc : Y.calm = true) (T0 : Turn Y.prog Y.w Y.K tg J fp it tn) (hfp : ∀ b ∈ fp, b ∈ Y.ex) (hpn : ∀ p ∈ Y.pn, p.1 ∉ Y.ex) (hxe : Y.xe = fun _ _ => False)
    (hg : DG Y tg g) (hgs : ∀ i ∈ g.slots, i ∈ vs) (he : DE Y T W elt e) (ok : ItOk Y.K T G1 J ds) : ∀ (k i n : Nat) (s₀ s : Shared) (σ : L2.St) (H G : Hp) (Γ : List Sl) (st : S), ds.length - i = k → i ≤ ds.length → k ≤ n → Inv Y [] σ H s → tn i s.heap → (∀ b ∈ fp, H b = none) → Sub G1 G → Fr Y.K T W P G Γ st σ H →
      L2.wipe σ vs = σw → (allLoop (allBody g e) (ds.drop i) Γ).run st (AllK Y T W P G1 vs σw Fin) noX →
      Seg (model Y.prog Y.w) A (RG Y Fin) (YG Y Fin) n s₀ (.compLoop (.GeneratorExp elt [⟨tg, iter, [], 0⟩] scope pos) 0 (.ref it) .none Y.env) ((model Y.prog Y.w).den (.compLoop (.GeneratorExp elt [⟨tg, iter, [], 0⟩] scope pos) 0 (.ref it) .none Y.env)) [] s := by
  intro k
  induction k with
  | zero =>
    intro i n s₀ s σ H G Γ st hk hi hn I ht nf u F hw h
    have ei : i = ds.length := by omega
    subst ei
    rw [List.drop_length] at h
    show Seg _ A _ _ _ s₀ _ ((compTurn (.GeneratorExp elt [⟨tg, iter, [], 0⟩] scope pos) 0 (.ref it) .none Y.env).onRaise (leaving Y.env)) [] s
    rw [compTurn_gen, Sem.onRaise_eq_wrap]
    refine seg_bind_wrap (wpAny_standAt (seg_bind_wrap ?_))
    rw [hA]
    refine thnF (T0.done Y rfl rfl rfl hc _ [] s σ H (fun _ _ => False) I (fpY hfp hpn I nf) ht ((ok _ H (u.trans F.wf.gh)).2 (Nat.le_refl _))) fun r s1 ⟨hr, I1⟩ => ?_
    subst hr
    exact seg_end (.ok .next) ⟨rfl, σ, H, I1, h G σ H u F hw⟩
  | succ k ih =>
    intro i n s₀ s σ H G Γ st hk hi hn I ht nf u F hw h
    have hlt : i < ds.length := by omega
    have ed : ds[i]? = some ds[i] := by simp [hlt]
    obtain ⟨go, yl⟩ := (ok i H (u.trans F.wf.gh)).1 _ ed
    rw [List.drop_eq_getElem_cons hlt] at h
    show Seg _ A _ _ _ s₀ _ ((compTurn (.GeneratorExp elt [⟨tg, iter, [], 0⟩] scope pos) 0 (.ref it) .none Y.env).onRaise (leaving Y.env)) [] s
    rw [compTurn_gen, Sem.onRaise_eq_wrap]
    refine seg_bind_wrap (wpAny_standAt (seg_bind_wrap ?_))
    rw [hA]
    refine thnF (T0.item Y rfl rfl rfl hc i [] s σ H (fun _ _ => False) I (fpY hfp hpn I nf) ht go) fun r s1 ⟨u1, hr, h1⟩ => ?_
    subst hr
    refine seg_bind_wrap ?_
    rw [hA]
    refine thnF h1 fun _ s2 ⟨x, H2, I2, r2, y2, t2, n2⟩ => ?_
    obtain ⟨rfl, dx⟩ := yl x H2 y2
    have I2' := I2.pinned (fpY hfp hpn I2 n2) (T0.obj _ _ t2)
    obtain ⟨Γ3, e3, h⟩ := opt_run (o := setG g ds[i] Γ) h
    refine seg_bind_wrap ?_
    rw [hA]
    have asg := hg.run _ s2 σ H2 x u1 (fun σ' H' => H' = H2 ∧ Fr Y.K T W P G Γ3 st σ' H2 ∧ L2.wipe σ' vs = σw) I2' r2 (set_ok F (dx.mono u) e3 fun σ' F' b => ⟨rfl, F', same_wipe b hgs hw⟩)
    rw [hxe] at asg
    refine thnF asg fun _ s3 ⟨σ3, H3, I3, e3', F3, w3⟩ => ?_
    subst e3'
    simp only [List.forIn_nil]
    refine seg_bind_wrap (wpAny_pure ?_)
    simp only [if_true]
    have hy : ∀ v, yieldOut Y.env v = yieldValue v := fun v => by simp only [yieldOut, hco, Bool.false_eq_true, if_false]
    simp only [hy]
    rw [Sem.bind_eq_wrap', Sem.bind_eq_wrap', Sem.wrap_wrap, Sem.wrap_wrap]
    refine seg_wrap ?_
    rw [hA]
    have elt_ := he.run _ s3 σ3 H3 (fun v H' => ∃ b G' Γ' st', v = V.bl b ∧ Sub G1 G' ∧ Fr Y.K T W P G' Γ' st' σ3 H' ∧ (M.cond b (allLoop (allBody g e) (ds.drop (i + 1)) Γ') (.pure (false, Γ'))).run st' (AllK Y T W P G1 vs σw Fin) noX) I3 (xE.opd F3 (M.weak h fun w st' h v G4 H4 u4 F4 o4 => by
      obtain ⟨d, dd, h⟩ := use_run F4 o4 h
      obtain ⟨b, rfl, h⟩ := isB_run h
      exact ⟨b, G4, w.2, st', dd.bl, u.trans u4, F4, h⟩))
    rw [hxe] at elt_
    refine thnF elt_ fun vv s4 ⟨v, H4, I4, rv, b, G4, Γ4, st4, ev, u4, F4, h⟩ => ?_
    subst ev
    cases rv
    obtain ⟨m, rfl⟩ : ∃ m, n = m + 1 := ⟨n - 1, by omega⟩
    have I5 : Inv Y [] σ3 H4 s4 := I4.unpinned
    refine seg_at (seg_yield rfl rfl rfl ⟨b, σ3, H4, rfl, I5, fun eb => ?_, fun eb Gn hGn => ?_⟩)
    · exact h.2 eb G4 σ3 H4 u4 F4 w3
    · have pin : ∀ c ∈ fp, ∀ o, s2.heap.get? c = some o → s4.heap.get? c = some o ∧ H4 c = none := fun c hc o eo =>
        let z := I4.pin (c, o) (List.mem_append_right _ (List.mem_append_right _ (mem_pinsAt hc eo)))
        ⟨z.1, z.2.1⟩
      refine seg_again rfl (ih (i + 1) m _ _ σ3 H4 G4 Γ4 st4 (by omega) hlt (by omega) (Inv.gens I5 hGn) (T0.keep _ _ _ t2 fun c hc o eo => (pin c hc o eo).1) (fun c hc => ?_) u4 F4 w3 (h.1 eb))
      obtain ⟨o, eo, _⟩ := T0.obj _ _ t2 c hc
      exact (pin c hc o eo).2
end
end Ev
/-! from E11.lean -/
set_option maxRecDepth 100000
set_option maxHeartbeats 4000000
/-! Ev, part 11: all(.. for .. in ..) as an expression. -/
namespace Ev
open PySem PySem.Spec PyProof.Rows L2

/-- a generator expression of any clauses is made -/
theorem eval_gens (elt target iter : Expr) (ifs : List Expr) (more : List Comprehension) (scope : Scope) (pos : Pos) (env : Env) (hco : scope.isCoroutine = false) :
    eval (.GeneratorExp elt (⟨target, iter, ifs, 0⟩ :: more) scope pos) env = (do
      let v ← eval iter env
      standAt iter.pos
      let v ← genFold iter env v
      let w ← holding [v] (pyIter v)
      enterFrame
      let clo ← closureFor scope env
      let co ← genexprCode env pos (env.qual ++ "<genexpr>") scope
      let b ← builtinsFor env.globals env.builtins
      let e' ← newFunctionEnv scope env.globals clo [(".0", w)] (env.qual ++ "<genexpr>.") none co none b
      newGenerator (.compStart (.GeneratorExp elt (⟨target, iter, ifs, 0⟩ :: more) scope pos) 0 w .none e') "<genexpr>" (env.qual ++ "<genexpr>")) := by
  rw [arm_eval_GeneratorExp]
  simp only [hco, Bool.false_eq_true, if_false]
  cases iter <;> rfl
theorem gens_make {M : Model} {A : Around} {E : Value → Shared → Prop} {s : Shared} {env : Env} {elt target iter : Expr} {ifs : List Expr} {more : List Comprehension} {scope : Scope} {cl : List (Str × Addr)} {pos : Pos} {Q : Value → Shared → Prop}
    (hco : scope.isCoroutine = false) (hclos : closureFor scope env = pure cl) (hcell : ∀ y ∈ scope.names, y.2 ≠ .cell) (h0 : scope.names.lookup (".0" : Str) = some NameKind.local) (hkind : scope.kind = .function) (hroom : A.depth < recursionLimit)
    (h : wpAny M A (eval iter env) (fun xv s₁ => wpAny M A (pyIter xv) (fun it s₂ => s₂.heap.NoLimit ∧ wpAny M A (genexprCode env pos (env.qual ++ "<genexpr>") scope) (fun code s₃ => wpAny M A (builtinsFor env.globals env.builtins) (fun bi s₄ =>
      ∀ h' : Heap, h'.Ns s₄.heap.objs.size (fun y => if y = ".0" then some it else none) → Heap.SameBut s₄.heap.objs.size (s₄.heap.push { cls := .type "frame", data := .dict #[] }) h' →
        Q (.ref h'.objs.size) { s₄ with
          gens := s₄.gens.push (.fresh (.compStart (.GeneratorExp elt (⟨target, iter, ifs, 0⟩ :: more) scope pos) 0 it .none (genEnv scope cl s₄.heap.objs.size code bi env))), toks := s₄.toks + 1 + 1 + 1,
          heap := h'.push { cls := .type "generator", data := .fields #[.int s₄.gens.size 0, .str "<genexpr>" (s₄.toks + 1), .str (env.qual ++ "<genexpr>") (s₄.toks + 1 + 1)] } }) E s₃) E s₂) E s₁) E s)
    (hs : ∀ x, genFold iter env x = pure x) : wpAny M A (eval (.GeneratorExp elt (⟨target, iter, ifs, 0⟩ :: more) scope pos) env) Q E s := by
  rw [eval_gens _ _ _ _ _ _ _ _ hco, hclos]
  refine wpAny_bind (wpAny_mono h (fun v s₁ h₁ => wpAny_bind (wpAny_standAt (wpAny_bind (wpAny_of_eq (hs v) (wpAny_bind (wpAny_holding (wpAny_mono h₁ (fun it s₂ h₂ => ?_) fun _ _ e => e))))))) fun _ _ e => e)
  refine wpAny_bind (wpAny_enterFrame h₂.1 hroom (wpAny_bind (wpAny_pure (wpAny_bind (wpAny_mono h₂.2 (fun code s₃ h₃ => wpAny_bind (wpAny_mono h₃ (fun bi s₄ h₄ => ?_) fun _ _ e => e)) fun _ _ e => e)))))
  refine wpAny_bind (wpAny_newFunctionEnv hcell (fun y hy => ?_) (fun h' hn' hs' => ?_) hkind)
  · rcases List.mem_cons.mp hy with rfl | hy
    · exact h0
    · cases hy
  · have e : (fun y : Str => ([((".0" : Str), it)] : List (Str × Value)).reverse.lookup y) = fun y : Str => if y = (".0" : Str) then some it else none := by
      funext y
      by_cases hy : y = ".0"
      · subst hy; simp
      · have ny : (y == (".0" : Str)) = false := by simpa using hy
        simp [List.lookup, ny, hy]
    rw [e] at hn'
    simp only [newGenerator, newFields]
    exact wpAny_bind (wpAny_newGen (wpAny_bind (wpAny_mkText (wpAny_bind (wpAny_mkText (wpAny_newObj_type (h₄ h' hn' hs') (by size_fits)))))))

section
variable {Y : Cx} {A : Around} {Fin : Bool → Hp → Prop}
/-- the first step of the generator's code -/
theorem seg_begin {elt tg iter : Expr} {more : List Comprehension} {scope : Scope} {pos : Pos} {it : Addr} {tn : Nat → Heap → Prop} {fp : List Addr} {J : It} {env : Env} {R : GenEnd} {Pr : Protocol} {n : Nat} {s₀ s : Shared} (T0 : Turn Y.prog Y.w Y.K tg J fp it tn) (ht : tn 0 s.heap)
    (loop : Seg (model Y.prog Y.w) A R Pr n s₀ (.compLoop (.GeneratorExp elt (⟨tg, iter, [], 0⟩ :: more) scope pos) 0 (.ref it) .none env) ((model Y.prog Y.w).den (.compLoop (.GeneratorExp elt (⟨tg, iter, [], 0⟩ :: more) scope pos) 0 (.ref it) .none env)) [] s) :
    Seg (model Y.prog Y.w) A R Pr n s₀ (.compStart (.GeneratorExp elt (⟨tg, iter, [], 0⟩ :: more) scope pos) 0 (.ref it) .none env) ((model Y.prog Y.w).den (.compStart (.GeneratorExp elt (⟨tg, iter, [], 0⟩ :: more) scope pos) 0 (.ref it) .none env)) [] s := by
  show Seg _ A _ _ _ s₀ _ ((compStart (.GeneratorExp elt (⟨tg, iter, [], 0⟩ :: more) scope pos) 0 (.ref it) .none env).onRaise (leaving env)) [] s
  unfold compStart
  rw [Sem.onRaise_eq_wrap]
  show Seg _ A _ _ _ s₀ _ ((ask >>= _).wrap _ _ _ _) [] s
  refine seg_bind_wrap (wpAny_askSetting ?_)
  split
  · exact seg_again rfl loop
  · refine seg_bind_wrap (wpAny_rule ?_)
    show Seg _ A _ _ _ s₀ _ ((standAt iter.pos >>= _).wrap _ _ _ _) [] s
    exact seg_bind_wrap (wpAny_standAt (seg_bind_wrap (T0.self _ 0 s _ _ ht (seg_again rfl loop))))
theorem bare_set {s : Shared} {g : Nat} {x : GenState} (h : AllBare s.gens) (hx : x.bare = true) : AllBare (s.setGen g x).gens := fun y hy => by
  have hy' : y ∈ s.gens.setIfInBounds g x := hy
  rcases Array.mem_or_eq_of_mem_setIfInBounds hy' with e | e
  · exact h y e
  · rw [e]; exact hx
/-- all's own loop over the generator -/
theorem all_loop {a : Addr} {g : Nat} {A0 : Around} {R : Result → Shared → Prop} (hh : A0.handled = none) (hroom : A0.depth < recursionLimit) (hpin : ∃ o nm qn, (a, o) ∈ Y.pn ∧ o.cls = .type "generator" ∧ o.data = .fields #[.int (g : Nat) 0, nm, qn] ∧ o.dict = none ∧ o.slots = #[])
    (hR : ∀ b σ H s', Inv Y [] σ H s' → Fin b H → R (.ok (.ret (.bool b))) s') : ∀ (n : Nat) (gs : GenState) (s : Shared) (σ : L2.St) (H : Hp), Inv Y [] σ H s → s.gens[g]? = some gs →
      (∀ G, AllBare G → gs.Goes (model Y.prog Y.w) A0.in1.in1 (RG Y Fin) (YG Y Fin) n (.send .none) { s with gens := G }) → codeAny (model Y.prog Y.w) A0 (.builtin "all.loop" ⟨[.ref a], []⟩) R s := by
  obtain ⟨o, nm, qn, hp, o1, o2, o3, o4⟩ := hpin
  have isg : ∀ {σ : L2.St} {H : Hp} {s : Shared}, Inv Y [] σ H s → s.heap.IsGen a g := fun {σ H s} I => by
    have e := (I.pin (a, o) (List.mem_append_left _ hp)).1
    obtain ⟨cls, dict, data, slots⟩ := o
    simp only at o1 o2 o3 o4
    subst o1 o2 o3 o4
    exact ⟨_, nm, qn, e, rfl, rfl, rfl⟩
  intro n
  induction n with
  | zero =>
    intro gs s σ H I hg hgo
    refine codeAny_builtin F.entry_all_loop ?_
    rw [Around.under_plainId F.plain_all_loop _]
    show wpAny _ A0.in1 (pyNext (.ref a) >>= _) _ _ s
    refine wpAny_bind (GenW.wpAny_gsz (Nat.le_refl _) (wpAny_pyNext_genexpQ (P := RGP Y Fin) hh I.nolimit hroom (isg I) hg (hgo _ (bare_set I.bare rfl)) (fun v s₁ gs' hb hv => ?_) (fun s₁ hp' h' hk => ?_)))
    · obtain ⟨b, σ1, H1, rfl, I1, f1, f2⟩ := hv
      intro hsz
      refine wpAny_bind (wpAny_holding (wpAny_truthy_bool (wpAny_bind (wpAny_letGo ?_))))
      cases b with
      | true => exact (f2 rfl s₁.gens I1.bare).elim
      | false =>
        simp only [Bool.false_eq_true, if_false]
        exact wpAny_bind (wpAny_rule (wpAny_pure (hR false σ1 H1 _ (Inv.gens I1 (bare_set I1.bare hb)) (f1 rfl))))
    · obtain ⟨σ1, H1, I1, f⟩ := hp'
      intro hsz
      exact wpAny_bind (wpAny_rule (wpAny_pure (hR true σ1 H1 _ (Inv.gens (I1.kept (t' := s₁.toks) hk) (bare_set I1.bare rfl)) f)))
  | succ n ih =>
    intro gs s σ H I hg hgo
    refine codeAny_builtin F.entry_all_loop ?_
    rw [Around.under_plainId F.plain_all_loop _]
    show wpAny _ A0.in1 (pyNext (.ref a) >>= _) _ _ s
    have hlt : g < s.gens.size := by
      rcases Nat.lt_or_ge g s.gens.size with h | h
      · exact h
      · rw [Array.getElem?_eq_none h] at hg; cases hg
    refine wpAny_bind (GenW.wpAny_gsz (Nat.le_refl _) (wpAny_pyNext_genexpQ (P := RGP Y Fin) hh I.nolimit hroom (isg I) hg (hgo _ (bare_set I.bare rfl)) (fun v s₁ gs' hb hv => ?_) (fun s₁ hp' h' hk => ?_)))
    · obtain ⟨b, σ1, H1, rfl, I1, f1, f2⟩ := hv
      intro hsz
      refine wpAny_bind (wpAny_holding (wpAny_truthy_bool (wpAny_bind (wpAny_letGo ?_))))
      cases b with
      | true =>
        simp only [if_true]
        have hsz1 : g < s₁.gens.size := by rw [GenW.setGen_size] at hsz; omega
        exact wpAny_pure ⟨plainId_quiet F.plain_all_loop _, ih gs' _ σ1 H1 (Inv.gens I1 (bare_set I1.bare hb)) (by simp [Shared.setGen, hsz1]) fun G hG => f2 rfl G hG⟩
      | false =>
        simp only [Bool.false_eq_true, if_false]
        exact wpAny_bind (wpAny_rule (wpAny_pure (hR false σ1 H1 _ (Inv.gens I1 (bare_set I1.bare hb)) (f1 rfl))))
    · obtain ⟨σ1, H1, I1, f⟩ := hp'
      intro hsz
      exact wpAny_bind (wpAny_rule (wpAny_pure (hR true σ1 H1 _ (Inv.gens (I1.kept (t' := s₁.toks) hk) (bare_set I1.bare rfl)) f)))
end
end Ev
/-! from E12.lean -/
set_option maxRecDepth 100000
set_option maxHeartbeats 4000000
/-! Ev, part 12: all(.. for .. in ..) as an expression. -/
namespace Ev
open PySem PySem.Spec PyProof.Rows L2

section
variable {S : Type} {K : PySem.W.Frag} {T : Nat → Option Addr} {W : Wd S} {P G H : Hp} {Γ : List Sl} {s : S} {σ : L2.St}
/-- a code object's table has grown -/
theorem Fr.table (F : Fr K T W P G Γ s σ H) {a : Addr} {ps : Array Value} (h : W.tb a) (ht : TriplesOk ps.toList) : Fr K T W P G Γ s σ (upd H a (.tbl ps)) := by
  have hf := W.tbFoot s a h
  have nG : G a = none := F.wf.gf a hf
  have nP : ∀ b o, P b = some o → b ≠ a := fun b o e z => F.wf.pf b o e (z ▸ hf)
  refine ⟨⟨fun b o e => by rw [upd_ne (ne_of_none e nG)]; exact F.wf.gh b o e, fun b o e => by rw [upd_ne (nP b o e)]; exact F.wf.ph b o e, F.wf.pg, F.wf.pf, F.wf.gf, W.tbGrow _ _ _ _ _ F.wf.w h ht⟩, F.len, F.dat, fun i d e => ?_, F.inj⟩
  obtain ⟨b, h1, h2, h3⟩ := F.own i d e
  have nb : b ≠ a := fun z => h3.f (z ▸ hf)
  exact ⟨b, h1, h2.mono (Sub.refl _) (by rw [upd_ne nb]), h3⟩
end

section
variable {S : Type} {X : Cx} {T : Nat → Option Addr} {W : Wd S}
variable (X T W) in
/-- the turns of a generator expression's clauses, in its frame -/
def TurnsOk (k : Nat) (scope : Scope) (vs : List Nat) (elt tg iter : Expr) (more : List Comprehension) (gpos : Pos) (bd : D → List Sl → M S (Bool × List Sl)) : Prop :=
  ∀ (s : Shared) (H0 : Hp) (cl : List (Str × Addr)) (code : Value) (fp : List Addr) (pn : List (Addr × Obj)) (A Ag : Around) (cenv : Env) (it : Addr) (tn : Nat → Heap → Prop) (J : It) (ds : List D) (P G1 : Hp) (σw : L2.St) (Fin : Bool → Hp → Prop),
    cenv = genEnv scope cl s.heap.objs.size code builtinsNs X.env → A.over (.compLoop (.GeneratorExp elt (⟨tg, iter, [], 0⟩ :: more) scope gpos) 0 (.ref it) .none cenv) [] = Ag →
    Room k Ag → Ag.guards = some [] → Turn X.prog X.w X.K tg J fp it tn → (∀ p ∈ pn, p.1 ∉ fp) → ItOk X.K T G1 J ds →
    ∃ n, ∀ (s₀ s' : Shared) (σ : L2.St) (H G : Hp) (Γ : List Sl) (st : S), Inv (genX X s H0 cenv fp pn Ag) [] σ H s' → tn 0 s'.heap → (∀ b ∈ fp, H b = none) → Sub G1 G → Fr X.K T W P G Γ st σ H → L2.wipe σ vs = σw →
      (allLoop bd ds Γ).run st (AllK (genX X s H0 cenv fp pn Ag) T W P G1 vs σw Fin) noX →
      Seg (model X.prog X.w) A (RG (genX X s H0 cenv fp pn Ag) Fin) (YG (genX X s H0 cenv fp pn Ag) Fin) n s₀ (.compLoop (.GeneratorExp elt (⟨tg, iter, [], 0⟩ :: more) scope gpos) 0 (.ref it) .none cenv)
        ((model X.prog X.w).den (.compLoop (.GeneratorExp elt (⟨tg, iter, [], 0⟩ :: more) scope gpos) 0 (.ref it) .none cenv)) [] s'
theorem turns1 {k : Nat} {scope : Scope} {vs : List Nat} {elt tg iter : Expr} {gpos : Pos} {g : IG} {e : TEv S} (hco : scope.isCoroutine = false) (hc : X.calm = true) (hgs : ∀ i ∈ g.slots, i ∈ vs)
    (hg : ∀ (s : Shared) (H : Hp) (cl : List (Str × Addr)) (code : Value) (fp : List Addr) (pn : List (Addr × Obj)) (Ag : Around), DG (genX X s H (genEnv scope cl s.heap.objs.size code builtinsNs X.env) fp pn Ag) tg g)
    (he : ∀ (s : Shared) (H : Hp) (cl : List (Str × Addr)) (code : Value) (fp : List Addr) (pn : List (Addr × Obj)) (Ag : Around), Room k Ag → Ag.guards = some [] → DE (genX X s H (genEnv scope cl s.heap.objs.size code builtinsNs X.env) fp pn Ag) T W elt e) :
    TurnsOk X T W k scope vs elt tg iter [] gpos (allBody g e) := fun s H0 cl code fp pn A Ag cenv it tn J ds P G1 σw Fin ec hA hr hgd T0 hpn ok => by
  subst ec
  refine ⟨ds.length, fun s₀ s' σ H G Γ st I ht nf u F hw h => ?_⟩
  exact seg_all (Y := genX X s H0 _ fp pn Ag) hA hco hc T0 (fun _ z => z) hpn rfl (hg s H0 cl code fp pn Ag) hgs (he s H0 cl code fp pn Ag hr hgd) ok ds.length 0 ds.length s₀ s' σ H G Γ st rfl (Nat.zero_le _) (Nat.le_refl _) I ht nf u F hw (by rw [List.drop_zero]; exact h)
theorem de_all {k : Nat} {c Pt : Addr} {elt tg iter : Expr} {more : List Comprehension} {scope : Scope} {own : List (Str × Nat)} {p pos gpos : Pos} {w : TIv S} {bd : D → List Sl → M S (Bool × List Sl)} (hr : Room (k + 1) X.A) (hgd : X.A.guards = some []) (hc : X.calm = true) (hN : X.N.Nodup) (hg : Gl X "all") (hm : X.mg "all" = none)
    (TB : GxR.TabB X.base X.mg c Pt) (hcode : X.env.code = .ref c) (htb : W.tb Pt) (ok : GenOk X.N X.env.scope scope own) (hi : DI X T W tg iter w) (ht : TurnsOk X T W k scope (own.map (·.2)) elt tg iter more gpos bd) (hs : ∀ v, genFold iter X.env v = pure v := by intro _; rfl)
    (he : starEach [.GeneratorExp elt (⟨tg, iter, [], 0⟩ :: more) scope gpos] X.env = (false, eval (.GeneratorExp elt (⟨tg, iter, [], 0⟩ :: more) scope gpos) X.env) :: starEach [] X.env := by rfl) :
    DE X T W (.Call (.Name "all" p) [.GeneratorExp elt (⟨tg, iter, [], 0⟩ :: more) scope gpos] [] pos) (eAll (own.map (·.2)) w bd) := ⟨fun pins s σ H Q I h => by
  refine wpAny_Call_Name_kw (ld_blt I hg hm boot_all (callWith_builtin1 ?_ he (by rfl)))
  rw [he]
  show wpAny _ _ (spliced ((false, eval (.GeneratorExp elt (⟨tg, iter, [], 0⟩ :: more) scope gpos) X.env) :: backTo pos (starEach [] X.env))) _ _ s
  have clo := ok.clo I
  refine Calls.spliced_cons (gens_make ok.co (closure_ok clo) ok.nocell ok.dot ok.kind hr.depth ?_ hs)
  obtain ⟨P, G, Γ, st, F, h⟩ := h
  have hx : xI X T W w σ H (fun J H1 => ∃ G1 Γp st1 ds, Sub G G1 ∧ Fr X.K T W P G1 Γp st1 σ H1 ∧ ItOk X.K T G1 J ds ∧ clearG Γp (own.map (·.2)) = true ∧ (allLoop bd ds (wipeG Γp (own.map (·.2)))).run st1
      (fun r st' => ∀ v G' H', Sub G G' → Fr X.K T W P G' (backG Γp (wipeG r.2 (own.map (·.2))) (own.map (·.2))) st' σ H' → RR X.K T W P G' (backG Γp (wipeG r.2 (own.map (·.2))) (own.map (·.2))) st' σ H' v (.dat (.bl r.1)) → Q v H') noX) :=
    ⟨P, G, Γ, st, F, M.weak h fun p st1 h J G1 H1 u1 F1 okJ => ⟨G1, p.2, st1, p.1, u1, F1, okJ, h.1, h.2⟩⟩
  refine thn (hi.run pins s σ H _ I hx) fun v s1 h1 => thn h1 fun itv s2 ⟨it, fp, tn, J, H1, e1, I1, T0, t1, f1, G1, Γp, st1, ds, u1, F1, okJ, hclr, h⟩ => ?_
  subst e1
  refine ⟨I1.nolimit, ?_⟩
  obtain ⟨ps, hP, hps⟩ := W.tbAt _ _ _ _ F1.wf.w htb
  refine gen_code TB hcode I1 hP hps fun code ps' s4 hps' I4 k4 => ?_
  intro h' hns hsb
  generalize hH2 : upd H1 Pt (.tbl ps') = H2 at I4
  have F2 : Fr X.K T W P G1 Γp st1 σ H2 := hH2 ▸ F1.table htb hps'
  have nPt : ∀ b ∈ fp, b ≠ Pt := fun b hb z => by
    have := (f1 b hb).1
    rw [z, hP] at this; cases this
  have f2 : ∀ b ∈ fp, FpOk X pins H2 b := fun b hb => ⟨by rw [← hH2, upd_ne (nPt b hb)]; exact (f1 b hb).1, (f1 b hb).2⟩
  have t4 : tn 0 s4.heap := T0.keep _ _ _ t1 fun b hb o e => k4 b o (nPt b hb) e
  have sz4 : ∀ b ∈ fp, b < s4.heap.objs.size := fun b hb => by
    obtain ⟨o, e, _⟩ := T0.obj _ _ t4 b hb
    exact Heap.lt_size e
  have hsz : h'.objs.size = s4.heap.objs.size + 1 := by rw [hsb.1, Heap.size_push]
  have keep' : ∀ b o, s4.heap.get? b = some o → h'.get? b = some o := fun b o e => hsb.extBut b o (Nat.ne_of_lt (Heap.lt_size e)) (Heap.get?_push_of_some _ e)
  generalize hcl : cloFrom X.env.cells scope.names [] = cl
  generalize hce : genEnv scope cl s4.heap.objs.size code builtinsNs X.env = cenv
  generalize hgo : ({ cls := .type "generator", data := .fields #[.int s4.gens.size 0, .str "<genexpr>" (s4.toks + 1), .str (X.env.qual ++ "<genexpr>") (s4.toks + 1 + 1)] } : Obj) = go
  have keep5 : ∀ b o, s4.heap.get? b = some o → (h'.push go).get? b = some o := fun b o e => Heap.get?_push_of_some _ (keep' b o e)
  generalize hs5 : ({ s4 with gens := s4.gens.push (.fresh (.compStart (.GeneratorExp elt (⟨tg, iter, [], 0⟩ :: more) scope gpos) 0 (.ref it) .none cenv)), toks := s4.toks + 1 + 1 + 1, heap := h'.push go } : Shared) = s5
  have hA : X.A.in1.in1.over (.compLoop (.GeneratorExp elt (⟨tg, iter, [], 0⟩ :: more) scope gpos) 0 (.ref it) .none cenv) [] = ⟨X.A.handled, X.A.depth + 1, some (cenv :: X.stack), some [], X.A.units + 5⟩ := by
    have e1 : pushEnvs [cenv] (some X.stack) = some (cenv :: X.stack) := rfl
    show (⟨X.A.handled, X.A.depth + 0 + 1, pushEnvs [cenv] (pushEnvs [] X.A.frames), pushGuards [] (pushGuards [] X.A.guards), X.A.units + 1 + 1 + 0 + 3⟩ : Around) = _
    rw [I.ok.frames, hgd]
    rfl
  generalize hAg : (⟨X.A.handled, X.A.depth + 1, some (cenv :: X.stack), some [], X.A.units + 5⟩ : Around) = Ag at hA
  have hroomG : Room k Ag := by
    subst hAg
    exact ⟨hr.hd, by have := hr.dp; show X.A.depth + 1 + 3 * k + 5 < _; omega, by have := hr.un; show X.A.units + 5 + 16 * k + 200 < _; omega⟩
  have hgG : Ag.guards = some [] := by subst hAg; rfl
  have hga : s5.heap.get? h'.objs.size = some go := by subst hs5; exact Heap.get?_push_size _ (by subst hgo; rfl)
  have hpn : ∀ p ∈ [(h'.objs.size, go)], p.1 ∉ fp := fun q hq hf => by
    have e : q = (h'.objs.size, go) := by simpa using hq
    subst e
    have := sz4 _ hf
    have e2 : h'.objs.size < s4.heap.objs.size := this
    omega
  have I5 : Inv (genX X s4 H2 cenv fp [(h'.objs.size, go)] Ag) [] (L2.wipe σ (own.map (·.2))) H2 s5 := by
    refine gen_start (cl := cl) (code := code) (m := fun y => if y = ".0" then some (.ref it) else none) I4 ok hN (fun b hb => ⟨f2 b hb, sz4 b hb⟩) hcl.symm hce.symm (by subst hs5; rfl) (by subst hs5; exact I4.bare.push rfl) (fun b o e => by subst hs5; exact keep5 b o e)
      (by subst hs5; exact hns.push _) hga (by omega) (fun v z => by subst hgo; cases z) (fun _ => by subst hAg; exact hr.hd) (by subst hAg; rfl)
  have t5 : tn 0 s5.heap := T0.keep _ _ _ t4 fun b _ o e => by subst hs5; exact keep5 b o e
  obtain ⟨n, hseg⟩ := ht s4 H2 cl code fp [(h'.objs.size, go)] X.A.in1.in1 Ag cenv it tn J ds P G1 (L2.wipe σ (own.map (·.2))) (fun b H' => Q (.bl b) H') hce.symm hA hroomG hgG T0 hpn okJ
  have idem : L2.wipe (L2.wipe σ (own.map (·.2))) (own.map (·.2)) = L2.wipe σ (own.map (·.2)) := by
    have : ∀ us vs : List Nat, (∀ i ∈ us, i ∈ vs) → L2.wipe (L2.wipe σ us) vs = L2.wipe σ vs := fun us vs => by
      induction us with
      | nil => exact fun _ => rfl
      | cons a us ih => exact fun hu => (wipe_set (hu a List.mem_cons_self)).trans (ih fun i hi => hu i (List.mem_cons_of_mem _ hi))
    exact this _ _ fun _ z => z
  have run : (allLoop bd ds (wipeG Γp (own.map (·.2)))).run st1 (AllK (genX X s4 H2 cenv fp [(h'.objs.size, go)] Ag) T W P G1 (own.map (·.2)) (L2.wipe σ (own.map (·.2))) (fun b H' => Q (.bl b) H')) noX := M.weak h fun r st' h G' σ' H' u' F' hw => by
    have F3 := F'.wipe (own.map (·.2))
    rw [hw] at F3
    exact h _ G' H' (u1.trans u') (F2.unwipe u' hclr F3) (.dat (.bl _))
  have nf : ∀ b ∈ fp, H2 b = none := fun b hb => (f2 b hb).1
  refine Calls.spliced_nil (call_function_tree PySem.F.kind_all PySem.F.plain_all PySem.F.entry_all (PySem.F.args_all1 _) ?_)
  unfold Builtin.«all»
  refine wpAny_bind (m := oneArg "all" _) (wpAny_pure ?_)
  have hgen : s5.gens[s4.gens.size]? = some (.fresh (.compStart (.GeneratorExp elt (⟨tg, iter, [], 0⟩ :: more) scope gpos) 0 (.ref it) .none cenv)) := by subst hs5; exact Array.getElem?_push_size ..
  have isg : s5.heap.IsGen h'.objs.size s4.gens.size := ⟨go, .str "<genexpr>" (s4.toks + 1), .str (X.env.qual ++ "<genexpr>") (s4.toks + 1 + 1), hga, by subst hgo; rfl, by subst hgo; rfl, by subst hgo; rfl⟩
  refine wpAny_bind (wpAny_pyIter_gen isg ?_)
  refine wpAny_pure ⟨plainId_quiet PySem.F.plain_all_loop _, all_loop (Y := genX X s4 H2 cenv fp [(h'.objs.size, go)] Ag) (g := s4.gens.size) (Fin := fun b H' => Q (.bl b) H') hr.hd hr.depth ⟨go, .str "<genexpr>" (s4.toks + 1), .str (X.env.qual ++ "<genexpr>") (s4.toks + 1 + 1), List.mem_singleton.mpr rfl, by subst hgo; rfl, by subst hgo; rfl, by subst hgo; rfl, by subst hgo; rfl⟩
    (fun b σ' H' s' I' q => ?_) n _ s5 _ H2 I5 hgen fun Gn hG => ⟨rfl, seg_begin (Y := genX X s4 H2 cenv fp [(h'.objs.size, go)] Ag) T0 t5 (hseg _ _ _ H2 G1 _ st1 (Inv.gens I5 hG) t5 nf (Sub.refl _) (F2.wipe _) idem run)⟩⟩
  exact ⟨.bl b, H', I4.call' (ch := fp) I'.os I'.base I'.hok I'.bare (fun c hc' => ⟨(f2 c hc').2.2.2.1, (f2 c hc').2.1, (f2 c hc').2.2.2.2.1, (f2 c hc').2.2.2.2.2⟩), rfl, q⟩⟩
end
end Ev
/-! from E13.lean -/
set_option maxRecDepth 100000
set_option maxHeartbeats 4000000
/-! Ev, part 13: all(.. for .. in .. for .. in ..). -/
namespace Ev
open PySem PySem.Spec PyProof.Rows L2

theorem turn_out (elt t0 i0 t1 i1 : Expr) (scope : Scope) (pos : Pos) (it acc : Value) (env : Env) :
    compTurn (.GeneratorExp elt [⟨t0, i0, [], 0⟩, ⟨t1, i1, [], 0⟩] scope pos) 0 it acc env = (do
      standAt i0.pos
      match ← pyNext it with
      | none => pure (.done .next)
      | some v =>
        letOwnedTupleGo t0 it v
        assign t0 env v
        let mut ok := true
        for c in ([] : List Expr) do
          if ok then ok ← isTrue c env (eval c env)
        if ok then
          let x ← eval i1 env
          standAt i1.pos
          let x ← foldedSetIterable i1 env x
          let _ ← runOwn (.compStart (.GeneratorExp elt [⟨t0, i0, [], 0⟩, ⟨t1, i1, [], 0⟩] scope pos) 1 (← holding [x] (pyIter x)) acc env) env
        again (.compLoop (.GeneratorExp elt [⟨t0, i0, [], 0⟩, ⟨t1, i1, [], 0⟩] scope pos) 0 it acc env)) := by rfl
theorem turn_in (elt t0 i0 t1 i1 : Expr) (scope : Scope) (pos : Pos) (it acc : Value) (env : Env) :
    compTurn (.GeneratorExp elt [⟨t0, i0, [], 0⟩, ⟨t1, i1, [], 0⟩] scope pos) 1 it acc env = (do
      standAt i1.pos
      match ← pyNext it with
      | none => pure (.done .next)
      | some v =>
        letOwnedTupleGo t1 it v
        assign t1 env v
        let mut ok := true
        for c in ([] : List Expr) do
          if ok then ok ← isTrue c env (eval c env)
        if ok then
          (do let v ← eval elt env; standAt elt.pos; let _ ← yieldOut env v)
        again (.compLoop (.GeneratorExp elt [⟨t0, i0, [], 0⟩, ⟨t1, i1, [], 0⟩] scope pos) 1 it acc env)) := by rfl

section
variable {S : Type} {Y : Cx} {T : Nat → Option Addr} {W : Wd S} {P G1 : Hp} {A : Around} {vs : List Nat} {σw : L2.St} {Fin : Bool → Hp → Prop}
/-- the turns of the inner clause; N: what is left to be handed out behind it -/
theorem seg_inner {elt t0 i0 t1 i1 : Expr} {scope : Scope} {pos : Pos} {it0 it : Addr} {fp : List Addr} {tn : Nat → Heap → Prop} {J : It} {g : IG} {e : TEv S} {ds : List D} {G2 : Hp} {pins : List (Addr × Obj)} {kk : Result → Sem PySem.Fin} {gg : Bool} {ll : List Value} {pp : Pos} {N : Nat} {Post : Bool × List Sl → S → Prop}
    (hA : A.over (.compLoop (.GeneratorExp elt [⟨t0, i0, [], 0⟩, ⟨t1, i1, [], 0⟩] scope pos) 0 (.ref it0) .none Y.env) [] = Y.A) (hco : Y.env.scope.isCoroutine = false) (hc : Y.calm = true) (T0 : Turn Y.prog Y.w Y.K t1 J fp it tn) (hgg : gg = false)
    (hfp : ∀ σ H s, Inv Y pins σ H s → (∀ b ∈ fp, H b = none) → ∀ b ∈ fp, FpOk Y pins H b) (hxe : Y.xe = fun _ _ => False) (hg : DG Y t1 g) (hgs : ∀ i ∈ g.slots, i ∈ vs) (he : DE Y T W elt e) (ok : ItOk Y.K T G2 J ds)
    (hF : ∀ Γ st G' σ' H', Post (false, Γ) st → Sub G2 G' → Fr Y.K T W P G' Γ st σ' H' → L2.wipe σ' vs = σw → Fin false H')
    (hT : ∀ n s₀ s σ H G Γ st, N ≤ n → Post (true, Γ) st → Inv Y pins σ H s → Sub G2 G → Fr Y.K T W P G Γ st σ H → L2.wipe σ vs = σw →
      Seg (model Y.prog Y.w) A (RG Y Fin) (YG Y Fin) n s₀ (.compLoop (.GeneratorExp elt [⟨t0, i0, [], 0⟩, ⟨t1, i1, [], 0⟩] scope pos) 0 (.ref it0) .none Y.env) (kk (.ok .next)) [] s) :
    ∀ (k i n : Nat) (s₀ s : Shared) (σ : L2.St) (H G : Hp) (Γ : List Sl) (st : S), ds.length - i = k → i ≤ ds.length → k + N ≤ n → Inv Y pins σ H s → tn i s.heap → (∀ b ∈ fp, H b = none) → Sub G2 G → Fr Y.K T W P G Γ st σ H →
      L2.wipe σ vs = σw → (allLoop (allBody g e) (ds.drop i) Γ).run st Post noX →
      Seg (model Y.prog Y.w) A (RG Y Fin) (YG Y Fin) n s₀ (.compLoop (.GeneratorExp elt [⟨t0, i0, [], 0⟩, ⟨t1, i1, [], 0⟩] scope pos) 1 (.ref it) .none Y.env) ((model Y.prog Y.w).den (.compLoop (.GeneratorExp elt [⟨t0, i0, [], 0⟩, ⟨t1, i1, [], 0⟩] scope pos) 1 (.ref it) .none Y.env))
        [.ret kk none gg ll (.compLoop (.GeneratorExp elt [⟨t0, i0, [], 0⟩, ⟨t1, i1, [], 0⟩] scope pos) 0 (.ref it0) .none Y.env) pp []] s := by
  subst hgg
  have hA1 : A.over (.compLoop (.GeneratorExp elt [⟨t0, i0, [], 0⟩, ⟨t1, i1, [], 0⟩] scope pos) 1 (.ref it) .none Y.env) [.ret kk none false ll (.compLoop (.GeneratorExp elt [⟨t0, i0, [], 0⟩, ⟨t1, i1, [], 0⟩] scope pos) 0 (.ref it0) .none Y.env) pp []] = Y.A :=
    (GenW.over_loop (c' := .compLoop (.GeneratorExp elt [⟨t0, i0, [], 0⟩, ⟨t1, i1, [], 0⟩] scope pos) 1 (.ref it) .none Y.env) rfl rfl).trans hA
  intro k
  induction k with
  | zero =>
    intro i n s₀ s σ H G Γ st hk hi hn I ht nf u F hw h
    have ei : i = ds.length := by omega
    subst ei
    rw [List.drop_length] at h
    show Seg _ A _ _ _ s₀ _ ((compTurn (.GeneratorExp elt [⟨t0, i0, [], 0⟩, ⟨t1, i1, [], 0⟩] scope pos) 1 (.ref it) .none Y.env).onRaise (fun x => do noteFrame x Y.env; theTreesLotGoes x)) _ s
    rw [turn_in, Sem.onRaise_eq_wrap]
    refine seg_bind_wrap (wpAny_standAt (seg_bind_wrap ?_))
    rw [hA1]
    refine thnF (T0.done Y rfl rfl rfl hc _ pins s σ H (fun _ _ => False) I (hfp σ H s I nf) ht ((ok _ H (u.trans F.wf.gh)).2 (Nat.le_refl _))) fun r s1 ⟨hr, I1⟩ => ?_
    subst hr
    exact seg_leaf (.ok .next) (hT n s₀ s1 σ H G Γ st (by omega) h I1 u F hw)
  | succ k ih =>
    intro i n s₀ s σ H G Γ st hk hi hn I ht nf u F hw h
    have hlt : i < ds.length := by omega
    have ed : ds[i]? = some ds[i] := by simp [hlt]
    obtain ⟨go, yl⟩ := (ok i H (u.trans F.wf.gh)).1 _ ed
    rw [List.drop_eq_getElem_cons hlt] at h
    show Seg _ A _ _ _ s₀ _ ((compTurn (.GeneratorExp elt [⟨t0, i0, [], 0⟩, ⟨t1, i1, [], 0⟩] scope pos) 1 (.ref it) .none Y.env).onRaise (fun x => do noteFrame x Y.env; theTreesLotGoes x)) _ s
    rw [turn_in, Sem.onRaise_eq_wrap]
    refine seg_bind_wrap (wpAny_standAt (seg_bind_wrap ?_))
    rw [hA1]
    refine thnF (T0.item Y rfl rfl rfl hc i pins s σ H (fun _ _ => False) I (hfp σ H s I nf) ht go) fun r s1 ⟨u1, hr, h1⟩ => ?_
    subst hr
    refine seg_bind_wrap ?_
    rw [hA1]
    refine thnF h1 fun _ s2 ⟨x, H2, I2, r2, y2, t2, n2⟩ => ?_
    obtain ⟨rfl, dx⟩ := yl x H2 y2
    have I2' := I2.pinned (hfp σ H2 s2 I2 n2) (T0.obj _ _ t2)
    obtain ⟨Γ3, e3, h⟩ := opt_run (o := setG g ds[i] Γ) h
    refine seg_bind_wrap ?_
    rw [hA1]
    have asg := hg.run _ s2 σ H2 x u1 (fun σ' H' => H' = H2 ∧ Fr Y.K T W P G Γ3 st σ' H2 ∧ L2.wipe σ' vs = σw) I2' r2 (set_ok F (dx.mono u) e3 fun σ' F' b => ⟨rfl, F', same_wipe b hgs hw⟩)
    rw [hxe] at asg
    refine thnF asg fun _ s3 ⟨σ3, H3, I3, e3', F3, w3⟩ => ?_
    subst e3'
    simp only [List.forIn_nil]
    refine seg_bind_wrap (wpAny_pure ?_)
    simp only [if_true]
    have hy : ∀ v, yieldOut Y.env v = yieldValue v := fun v => by simp only [yieldOut, hco, Bool.false_eq_true, if_false]
    simp only [hy]
    rw [Sem.bind_eq_wrap', Sem.bind_eq_wrap', Sem.wrap_wrap, Sem.wrap_wrap]
    refine seg_wrap ?_
    rw [hA1]
    have elt_ := he.run _ s3 σ3 H3 (fun v H' => ∃ b G' Γ' st', v = V.bl b ∧ Sub G2 G' ∧ Fr Y.K T W P G' Γ' st' σ3 H' ∧ (M.cond b (allLoop (allBody g e) (ds.drop (i + 1)) Γ') (.pure (false, Γ'))).run st' Post noX) I3 (xE.opd F3 (M.weak h fun w st' h v G4 H4 u4 F4 o4 => by
      obtain ⟨d, dd, h⟩ := use_run F4 o4 h
      obtain ⟨b, rfl, h⟩ := isB_run h
      exact ⟨b, G4, w.2, st', dd.bl, u.trans u4, F4, h⟩))
    rw [hxe] at elt_
    refine thnF elt_ fun vv s4 ⟨v, H4, I4, rv, b, G4, Γ4, st4, ev, u4, F4, h⟩ => ?_
    subst ev
    cases rv
    obtain ⟨m, rfl⟩ : ∃ m, n = m + 1 := ⟨n - 1, by omega⟩
    have I5 : Inv Y pins σ3 H4 s4 := I4.unpinned
    have I6 : Inv Y [] σ3 H4 s4 := I5.pins_of fun p hp => I5.pin p (by simpa using List.mem_append_left pins (List.mem_append_right Y.pn hp))
    refine seg_at (seg_yield rfl rfl rfl ⟨b, σ3, H4, rfl, I6, fun eb => ?_, fun eb Gn hGn => ?_⟩)
    · exact hF Γ4 st4 G4 σ3 H4 (h.2 eb) u4 F4 w3
    · have pin : ∀ c ∈ fp, ∀ o, s2.heap.get? c = some o → s4.heap.get? c = some o ∧ H4 c = none := fun c hc o eo =>
        let z := I4.pin (c, o) (List.mem_append_right _ (List.mem_append_right _ (mem_pinsAt hc eo)))
        ⟨z.1, z.2.1⟩
      refine seg_again rfl (ih (i + 1) m _ _ σ3 H4 G4 Γ4 st4 (by omega) hlt (by omega) (Inv.gens I5 hGn) (T0.keep _ _ _ t2 fun c hc o eo => (pin c hc o eo).1) (fun c hc => ?_) u4 F4 w3 (h.1 eb))
      obtain ⟨o, eo, _⟩ := T0.obj _ _ t2 c hc
      exact (pin c hc o eo).2
/-- the turns of both clauses -/
theorem seg_all2 {elt t0 i0 t1 i1 : Expr} {scope : Scope} {pos : Pos} {it : Addr} {fp : List Addr} {tn : Nat → Heap → Prop} {J : It} {g g1 : IG} {w1 : TIv S} {e : TEv S} {ds : List D}
    (hA : A.over (.compLoop (.GeneratorExp elt [⟨t0, i0, [], 0⟩, ⟨t1, i1, [], 0⟩] scope pos) 0 (.ref it) .none Y.env) [] = Y.A) (hco : Y.env.scope.isCoroutine = false) (hc : Y.calm = true) (T0 : Turn Y.prog Y.w Y.K t0 J fp it tn) (hfp : ∀ b ∈ fp, b ∈ Y.ex) (hpn : ∀ p ∈ Y.pn, p.1 ∉ Y.ex) (hxe : Y.xe = fun _ _ => False)
    (hg : DG Y t0 g) (hgs : ∀ i ∈ g.slots, i ∈ vs) (hi : DI Y T W t1 i1 w1) (hg1 : DG Y t1 g1) (hgs1 : ∀ i ∈ g1.slots, i ∈ vs) (he : DE Y T W elt e) (hs : ∀ x, foldedSetIterable i1 Y.env x = pure x) (ok : ItOk Y.K T G1 J ds) :
    ∀ (k i n : Nat) (s₀ s : Shared) (σ : L2.St) (H G : Hp) (Γ : List Sl) (st : S), ds.length - i = k → i ≤ ds.length → k * 1000 ≤ n → Inv Y [] σ H s → tn i s.heap → (∀ b ∈ fp, H b = none) → Sub G1 G → Fr Y.K T W P G Γ st σ H →
      L2.wipe σ vs = σw → (allLoop (allBody2 g w1 (allBody g1 e)) (ds.drop i) Γ).run st (AllK Y T W P G1 vs σw Fin) noX →
      Seg (model Y.prog Y.w) A (RG Y Fin) (YG Y Fin) n s₀ (.compLoop (.GeneratorExp elt [⟨t0, i0, [], 0⟩, ⟨t1, i1, [], 0⟩] scope pos) 0 (.ref it) .none Y.env) ((model Y.prog Y.w).den (.compLoop (.GeneratorExp elt [⟨t0, i0, [], 0⟩, ⟨t1, i1, [], 0⟩] scope pos) 0 (.ref it) .none Y.env)) [] s := by
  intro k
  induction k with
  | zero =>
    intro i n s₀ s σ H G Γ st hk hi' hn I ht nf u F hw h
    have ei : i = ds.length := by omega
    subst ei
    rw [List.drop_length] at h
    show Seg _ A _ _ _ s₀ _ ((compTurn (.GeneratorExp elt [⟨t0, i0, [], 0⟩, ⟨t1, i1, [], 0⟩] scope pos) 0 (.ref it) .none Y.env).onRaise (leaving Y.env)) [] s
    rw [turn_out, Sem.onRaise_eq_wrap]
    refine seg_bind_wrap (wpAny_standAt (seg_bind_wrap ?_))
    rw [hA]
    refine thnF (T0.done Y rfl rfl rfl hc _ [] s σ H (fun _ _ => False) I (fpY hfp hpn I nf) ht ((ok _ H (u.trans F.wf.gh)).2 (Nat.le_refl _))) fun r s1 ⟨hr, I1⟩ => ?_
    subst hr
    exact seg_end (.ok .next) ⟨rfl, σ, H, I1, h G σ H u F hw⟩
  | succ k ih =>
    intro i n s₀ s σ H G Γ st hk hi' hn I ht nf u F hw h
    have hlt : i < ds.length := by omega
    have ed : ds[i]? = some ds[i] := by simp [hlt]
    obtain ⟨go, yl⟩ := (ok i H (u.trans F.wf.gh)).1 _ ed
    rw [List.drop_eq_getElem_cons hlt] at h
    show Seg _ A _ _ _ s₀ _ ((compTurn (.GeneratorExp elt [⟨t0, i0, [], 0⟩, ⟨t1, i1, [], 0⟩] scope pos) 0 (.ref it) .none Y.env).onRaise (leaving Y.env)) [] s
    rw [turn_out, Sem.onRaise_eq_wrap]
    refine seg_bind_wrap (wpAny_standAt (seg_bind_wrap ?_))
    rw [hA]
    refine thnF (T0.item Y rfl rfl rfl hc i [] s σ H (fun _ _ => False) I (fpY hfp hpn I nf) ht go) fun r s1 ⟨u1, hr, h1⟩ => ?_
    subst hr
    refine seg_bind_wrap ?_
    rw [hA]
    refine thnF h1 fun _ s2 ⟨x, H2, I2, r2, y2, t2, n2⟩ => ?_
    obtain ⟨rfl, dx⟩ := yl x H2 y2
    have I2' := I2.pinned (fpY hfp hpn I2 n2) (T0.obj _ _ t2)
    obtain ⟨Γ3, e3, h⟩ := opt_run (o := setG g ds[i] Γ) h
    refine seg_bind_wrap ?_
    rw [hA]
    have asg := hg.run _ s2 σ H2 x u1 (fun σ' H' => H' = H2 ∧ Fr Y.K T W P G Γ3 st σ' H2 ∧ L2.wipe σ' vs = σw) I2' r2 (set_ok F (dx.mono u) e3 fun σ' F' b => ⟨rfl, F', same_wipe b hgs hw⟩)
    rw [hxe] at asg
    refine thnF asg fun _ s3 ⟨σ3, H3, I3, e3', F3, w3⟩ => ?_
    subst e3'
    simp only [List.forIn_nil]
    refine seg_bind_wrap (wpAny_pure ?_)
    simp only [if_true]
    have hx : xI Y T W w1 σ3 H3 (fun J1 H4 => ∃ G4 Γ4 st4 ds1, Sub G1 G4 ∧ Fr Y.K T W P G4 Γ4 st4 σ3 H4 ∧ ItOk Y.K T G4 J1 ds1 ∧ ds1.length ≤ 1000 ∧ (allLoop (allBody g1 e) ds1 Γ4).run st4
        (fun p st' => (M.cond p.1 (allLoop (allBody2 g w1 (allBody g1 e)) (ds.drop (i + 1)) p.2) (.pure (false, p.2))).run st' (AllK Y T W P G1 vs σw Fin) noX) noX) :=
      ⟨P, G, Γ3, st, F3, M.weak h fun p st4 h J1 G4 H4 u4 F4 ok4 => ⟨G4, p.2, st4, p.1, u.trans u4, F4, ok4, h.1, h.2⟩⟩
    have it_ := hi.run _ s3 σ3 H3 _ I3 hx
    rw [hxe] at it_
    refine seg_bind_wrap ?_
    rw [hA]
    refine thnF it_ fun xv s4 h4 => ?_
    refine seg_bind_wrap (wpAny_standAt (seg_bind_wrap (wpAny_of_eq (hs xv) (seg_bind_wrap ?_))))
    rw [hA]
    refine wpAny_holding (thnF h4 fun itv s5 ⟨it1, fp1, tn1, J1, H5, e5, I5, T1, t5, f5, G4, Γ4, st4, ds1, u4, F4, ok4, hl4, h⟩ => ?_)
    subst e5
    rw [Sem.bind_eq_wrap', Sem.wrap_wrap]
    refine seg_call fun pp => ?_
    show Seg _ A _ _ _ s₀ _ ((compStart (.GeneratorExp elt [⟨t0, i0, [], 0⟩, ⟨t1, i1, [], 0⟩] scope pos) 1 (.ref it1) .none Y.env).onRaise (fun x => do noteFrame x Y.env; standAt theWindowsPlace)) _ s5
    have st5 : ∀ (σ : L2.St) (H : Hp) (s : Shared), Inv Y ([] ++ pinsAt fp s2.heap) σ H s → (∀ b ∈ fp1, H b = none) → ∀ b ∈ fp1, FpOk Y ([] ++ pinsAt fp s2.heap) H b := fun σ H s I n b hb => ⟨n b hb, (f5 b hb).2⟩
    have loop : ∀ (kk : Result → Sem PySem.Fin) (ll : List Value), (∀ n s₀ s, k * 1000 ≤ n → (∀ n₁, k * 1000 ≤ n₁ → Seg (model Y.prog Y.w) A (RG Y Fin) (YG Y Fin) n₁ s₀ (.compLoop (.GeneratorExp elt [⟨t0, i0, [], 0⟩, ⟨t1, i1, [], 0⟩] scope pos) 0 (.ref it) .none Y.env) ((model Y.prog Y.w).den (.compLoop (.GeneratorExp elt [⟨t0, i0, [], 0⟩, ⟨t1, i1, [], 0⟩] scope pos) 0 (.ref it) .none Y.env)) [] s) →
        Seg (model Y.prog Y.w) A (RG Y Fin) (YG Y Fin) n s₀ (.compLoop (.GeneratorExp elt [⟨t0, i0, [], 0⟩, ⟨t1, i1, [], 0⟩] scope pos) 0 (.ref it) .none Y.env) (kk (.ok .next)) [] s) →
        Seg (model Y.prog Y.w) A (RG Y Fin) (YG Y Fin) n s₀ (.compLoop (.GeneratorExp elt [⟨t0, i0, [], 0⟩, ⟨t1, i1, [], 0⟩] scope pos) 1 (.ref it1) .none Y.env) ((model Y.prog Y.w).den (.compLoop (.GeneratorExp elt [⟨t0, i0, [], 0⟩, ⟨t1, i1, [], 0⟩] scope pos) 1 (.ref it1) .none Y.env))
          [.ret kk none false ll (.compLoop (.GeneratorExp elt [⟨t0, i0, [], 0⟩, ⟨t1, i1, [], 0⟩] scope pos) 0 (.ref it) .none Y.env) pp []] s5 := fun kk ll hkk =>
      seg_inner (Fin := Fin) (vs := vs) (σw := σw) (P := P) (G2 := G4) (pp := pp) (N := k * 1000) (g := g1) (e := e) (W := W) (T := T)
      (Post := fun p st' => (M.cond p.1 (allLoop (allBody2 g w1 (allBody g1 e)) (ds.drop (i + 1)) p.2) (.pure (false, p.2))).run st' (AllK Y T W P G1 vs σw Fin) noX)
      hA hco hc T1 rfl st5 hxe hg1 hgs1 he ok4 (fun Γ' st' G' σ' H' hp u' F' w' => hp.2 rfl G' σ' H' (u4.trans u') F' w') (fun n' s₀' s' σ' H' G' Γ' st' hn' hp I' u' F' w' => by
        have pin : ∀ c ∈ fp, ∀ o, s2.heap.get? c = some o → s'.heap.get? c = some o ∧ H' c = none := fun c hc o eo =>
          let z := I'.pin (c, o) (List.mem_append_right _ (List.mem_append_right _ (mem_pinsAt hc eo)))
          ⟨z.1, z.2.1⟩
        refine hkk n' s₀' s' hn' fun n₁ hn₁ => ih (i + 1) n₁ s₀' s' σ' H' G' Γ' st' (by omega) hlt hn₁ I'.unpinned (T0.keep _ _ _ t2 fun c hc o eo => (pin c hc o eo).1) (fun c hc => ?_) (u4.trans u') F' w' (hp.1 rfl)
        obtain ⟨o, eo, _⟩ := T0.obj _ _ t2 c hc
        exact (pin c hc o eo).2)
      ds1.length 0 n s₀ s5 σ3 H5 G4 Γ4 st4 rfl (Nat.zero_le _) (by omega) I5 t5 (fun b hb => (f5 b hb).1) (Sub.refl _) F4 w3 (by rw [List.drop_zero]; exact h)
    unfold compStart
    rw [Sem.onRaise_eq_wrap]
    show Seg _ A _ _ _ s₀ _ ((ask >>= _).wrap _ _ _ _) _ s5
    refine seg_bind_wrap (wpAny_askSetting ?_)
    split
    · exact seg_again rfl (loop _ _ fun n' s₀' s' hn' q => seg_again rfl (q n' hn'))
    · refine seg_bind_wrap (wpAny_rule ?_)
      show Seg _ A _ _ _ s₀ _ ((standAt i1.pos >>= _).wrap _ _ _ _) _ s5
      exact seg_bind_wrap (wpAny_standAt (seg_bind_wrap (T1.self _ 0 s5 _ _ t5 (seg_again rfl (loop _ _ fun n' s₀' s' hn' q => seg_again rfl (q n' hn'))))))
theorem turns2 {S : Type} {X : Cx} {T : Nat → Option Addr} {W : Wd S} {k : Nat} {scope : Scope} {vs : List Nat} {elt tg iter t1 i1 : Expr} {gpos : Pos} {g g1 : IG} {w1 : TIv S} {e : TEv S} (hco : scope.isCoroutine = false) (hc : X.calm = true) (hgs : ∀ i ∈ g.slots, i ∈ vs) (hgs1 : ∀ i ∈ g1.slots, i ∈ vs)
    (hg : ∀ (s : Shared) (H : Hp) (cl : List (Str × Addr)) (code : Value) (fp : List Addr) (pn : List (Addr × Obj)) (Ag : Around), DG (genX X s H (genEnv scope cl s.heap.objs.size code builtinsNs X.env) fp pn Ag) tg g)
    (hi : ∀ (s : Shared) (H : Hp) (cl : List (Str × Addr)) (code : Value) (fp : List Addr) (pn : List (Addr × Obj)) (Ag : Around), Room k Ag → Ag.guards = some [] → DI (genX X s H (genEnv scope cl s.heap.objs.size code builtinsNs X.env) fp pn Ag) T W t1 i1 w1)
    (hg1 : ∀ (s : Shared) (H : Hp) (cl : List (Str × Addr)) (code : Value) (fp : List Addr) (pn : List (Addr × Obj)) (Ag : Around), DG (genX X s H (genEnv scope cl s.heap.objs.size code builtinsNs X.env) fp pn Ag) t1 g1)
    (he : ∀ (s : Shared) (H : Hp) (cl : List (Str × Addr)) (code : Value) (fp : List Addr) (pn : List (Addr × Obj)) (Ag : Around), Room k Ag → Ag.guards = some [] → DE (genX X s H (genEnv scope cl s.heap.objs.size code builtinsNs X.env) fp pn Ag) T W elt e)
    (hs : ∀ (s : Shared) (cl : List (Str × Addr)) (code : Value) (x : Value), foldedSetIterable i1 (genEnv scope cl s.heap.objs.size code builtinsNs X.env) x = pure x := by intros; rfl) :
    TurnsOk X T W k scope vs elt tg iter [⟨t1, i1, [], 0⟩] gpos (allBody2 g w1 (allBody g1 e)) := fun s H0 cl code fp pn A Ag cenv it tn J ds P G1 σw Fin ec hA hr hgd T0 hpn ok => by
  subst ec
  refine ⟨ds.length * 1000, fun s₀ s' σ H G Γ st I ht nf u F hw h => ?_⟩
  exact seg_all2 (Y := genX X s H0 _ fp pn Ag) hA hco hc T0 (fun _ z => z) hpn rfl (hg s H0 cl code fp pn Ag) hgs (hi s H0 cl code fp pn Ag hr hgd) (hg1 s H0 cl code fp pn Ag) hgs1 (he s H0 cl code fp pn Ag hr hgd) (hs s cl code) ok ds.length 0 _ s₀ s' σ H G Γ st rfl (Nat.zero_le _) (Nat.le_refl _) I ht nf u F hw (by rw [List.drop_zero]; exact h)
end
end Ev
/-! from E14.lean -/
set_option maxRecDepth 100000
set_option maxHeartbeats 4000000
/-! Ev, part 14: the law's own call at the head's heap. -/
namespace Ev
open PySem PySem.Spec PyProof.Rows L2

/-- at the head's heap h: the law's def at fa, the tables cs of code objects; sp: its promise -/
structure LawG (prog : Program) (w : World) (K : PySem.W.Frag) (k n : Nat) (x : Str) (mg : Str → Option Value) (fa : Addr) (h : Heap) where
  fd : FuncData
  cs : List (Addr × Addr)
  sp : Sp
  empty : ∀ p ∈ cs, h.get? p.2 = some { cls := .none, data := .fields #[] }
  out : ∀ p ∈ cs, K.lookup p.2 = none
  code : ∀ p ∈ cs, PySem.W.CodeHd h p.1 p.2
  binds : ∀ (s : Shared) (u : Value), BindsTo s fd ⟨[u], []⟩ [(x, u)]
  does : ∀ (H : Hp) (a : Addr) (ns : List Int), ns.length ≤ n → (∀ z ∈ ns, Builtin.Int.intBits z ≤ 1048576) → (∀ p ∈ cs, H p.2 = some (.tbl #[])) → (∀ b, H b = none ∨ b ∈ cs.map (·.2) ∨ b = a) → SqL K H a (ns.map V.int) →
    ((∃ o, H a = some (.frz o (.lst (ns.map V.int)))) ∨ (H a = none ∧ ∃ (o : Obj) (its : Array Value) (m : Nat), K.lookup a = some o ∧ o.cls = .type "list" ∧ o.dict = none ∧ o.data = .seq its m ∧ its.size ≤ sizeLine ∧ Vals (ns.map V.int) its.toList)) → sp [.ref a] H (fun v _ => v = .bl true) fun _ _ _ => False
  keeps : ∀ base : Heap, K.In base → base.Ns mainGlobals mg → (∀ p ∈ cs, GxR.TabB base mg p.1 p.2) → FnG prog w K mg base CX0 k fa fd [x] sp
theorem LawG.call {prog : Program} {w : World} {K : PySem.W.Frag} {mg mb : Str → Option Value} {k n : Nat} {fa a : Addr} {x : Str} {h1 : Shared} {vs : List Value} {ns : List Int} (L : LawG prog w K k n x mg fa h1.heap) (KX : K.In h1.heap) (hns : h1.heap.Ns mainGlobals mg) (hb : h1.heap.Ns builtinsNs mb)
    (hbb : ∀ x : Str, x ≠ "__name__" → mb x = bootBuiltins x) (hlim : h1.heap.NoLimit) (hg : h1.gens = #[])
    (hbm : ∃ (bm : Addr) (ob : Obj), mg "__builtins__" = some (.ref bm) ∧ bm ≠ builtinsNs ∧ h1.heap.get? bm = some ob ∧ ob.cls = .type "module" ∧ ob.dict = some builtinsNs ∧ ob.data = .plain)
    (ha : h1.heap.get? a = some { cls := .type "list", data := .seq vs.toArray }) (hi : IntsAre vs ns) (hl : ns.length ≤ n) (hl2 : n ≤ sizeLine) (hbits : ∀ z ∈ ns, Builtin.Int.intBits z ≤ 1048576) (hr : Room k callerA) :
    codeAny (model prog w) callerA (.call (.ref fa) ⟨[.ref a], []⟩) (fun r s' => r = .ok (.ret (.bool true)) ∧ OldK h1.heap s'.heap ∧ s'.os = h1.os ∧ AllBare s'.gens) h1 := by
  obtain ⟨fd, cs, sp, hT, nT, C, hbind, hsp, F⟩ := L
  have rv := vals_ints hi
  have lenV := hi.length
  have isT : ∀ b : Addr, b ∈ cs.map (·.2) → h1.heap.get? b = some { cls := .none, data := .fields #[] } := fun b hb => by
    obtain ⟨p, hp, e⟩ := List.mem_map.mp hb
    exact e ▸ hT p hp
  have aT : a ∉ cs.map (·.2) := fun z => by
    have q := isT a z
    rw [ha] at q
    exact nomatch (show Data.seq vs.toArray _ = Data.fields #[] from congrArg Obj.data (Option.some.inj q))
  have inT : ∀ p ∈ cs, p.2 ∈ cs.map (·.2) := fun p hp => List.mem_map.mpr ⟨p, hp, rfl⟩
  have main : ∀ H : Hp, (∀ p ∈ cs, H p.2 = some (.tbl #[])) → (∀ b, H b = none ∨ b ∈ cs.map (·.2) ∨ b = a) → (∀ u, H a = some u → ∃ o, u = .frz o (.lst (ns.map V.int))) → SqL K H a (ns.map V.int) → HOk prog w H h1.heap → (H a ≠ none → K.lookup a = none) →
      ((∃ o, H a = some (.frz o (.lst (ns.map V.int)))) ∨ (H a = none ∧ ∃ (o : Obj) (its : Array Value) (m : Nat), K.lookup a = some o ∧ o.cls = .type "list" ∧ o.dict = none ∧ o.data = .seq its m ∧ its.size ≤ sizeLine ∧ Vals (ns.map V.int) its.toList)) →
      codeAny (model prog w) callerA (.call (.ref fa) ⟨[.ref a], []⟩) (fun r s' => r = .ok (.ret (.bool true)) ∧ OldK h1.heap s'.heap ∧ s'.os = h1.os ∧ AllBare s'.gens) h1 := fun H hH hO hA hS hok hK hS2 => by
    have free : ∀ {b : Addr} {o : Obj}, h1.heap.get? b = some o → (∀ vs n, o.data ≠ .seq vs n) → o.data ≠ .fields #[] → H b = none := fun {b o} e n1 n2 => by
      rcases hO b with z | z | z
      · exact z
      · rw [isT b z] at e
        cases e; exact (n2 rfl).elim
      · rw [z, ha] at e
        cases e; exact (n1 _ _ rfl).elim
    have freeD : ∀ {b : Addr} {o : Obj} {es : Array DictEntry} {ep : Nat}, h1.heap.get? b = some o → o.data = .dict es ep → H b = none := fun {b o es ep} e d => free e (fun vs n z => by rw [d] at z; cases z) fun z => by rw [d] at z; cases z
    have low : ∀ {b : Addr} {o : Obj}, h1.heap.get? b = some o → H b = none → (hidT h1.heap H).get? b = some o := fun e n => hidT_get e n
    have nsK : ∀ {b : Addr} {m : Str → Option Value}, h1.heap.Ns b m → (hidT h1.heap H).Ns b m := fun {b m} ⟨o, es, ep, e, d, r⟩ => ⟨o, es, ep, low e (freeD e d), d, r⟩
    have KB : K.In (hidT h1.heap H) := fun b o e => low (KX b o e) (by
      rcases hO b with z | z | z
      · exact z
      · obtain ⟨p, hp, ep⟩ := List.mem_map.mp z
        rw [← ep, nT p hp] at e; cases e
      · cases q : H b with
        | none => rfl
        | some u => rw [z, hK (by rw [← z, q]; simp)] at e; cases e)
    have TB : ∀ p ∈ cs, GxR.TabB (hidT h1.heap H) mg p.1 p.2 := fun p hp => by
      have hTp := hT p hp
      refine ⟨?_, ?_, fun z => ?_⟩
      · obtain ⟨o, us, file, tf, flags, tg, inF, text, tt, e1, r1, r2, r3, r4, r5, r6, r7, r8, hne⟩ := C p hp
        refine ⟨o, us, file, tf, flags, tg, inF, text, tt, low e1 (free e1 (fun vs n z => by rw [r2] at z; cases z) fun z => ?_), r1, r2, r3, r4, r5, r6, r7, r8, hne⟩
        rw [r2] at z
        cases z; simp at r3
      · obtain ⟨bm, ob, b1, b2, b3, b4, b5, b6⟩ := hbm
        refine ⟨bm, ob, b1, b2, fun q => ?_, fun q => ?_, low b3 (free b3 (fun vs n z => by rw [b6] at z; cases z) fun z => by rw [b6] at z; cases z), b4, b5, b6⟩
        · obtain ⟨o, es, ep, e, hd, _⟩ := hns
          rw [q, e] at b3; cases b3
          rw [hd] at b6; cases b6
        · rw [q, hTp] at b3; cases b3
          cases b6
      · obtain ⟨o, es, ep, e, hd, _⟩ := hns
        rw [z, hTp] at e; cases e
        cases hd
    have e0 : Env0 prog w K mg (hidT h1.heap H) callerA [] h1 H := ⟨rfl, ⟨KB, nsK hns, ⟨mb, nsK hb, hbb⟩, let ⟨mc, q1, q2⟩ := hlim; ⟨mc, nsK q1, q2⟩⟩, fun b o e => of_hidT e, Nat.le_of_eq (hidT_size _ _), trivial, fun b hb => absurd (show b ∈ ([] : List Addr) from hb) (by simp), hok, .of_eq hg⟩
    refine codeAny_mono ((F _ KB (nsK hns) TB).run callerA [] h1 H ⟨[.ref a], []⟩ [.ref a] [.ref a] _ _ hr rfl e0 (hbind h1 (.ref a)) (.cons rfl .nil) (hsp H a ns hl hbits hH hO hS hS2)) fun r s' hq => ?_
    cases r with
    | error e => exact False.elim hq
    | ok fl =>
      cases fl with
      | ret u =>
        obtain ⟨v, H', os, bare, un, hok', r', q⟩ := hq
        have q : v = .bl true := q
        subst q
        obtain rfl : u = Value.bool true := r'
        have same : ∀ b o, b ∉ cs.map (·.2) → h1.heap.get? b = some o → s'.heap.get? b = some o := fun b o nb e => by
          cases q : H b with
          | none => exact un.keep b o e q (by intro z; exact absurd (show b ∈ ([] : List Addr) from z) (by simp)) (by simp)
          | some u =>
            rcases hO b with z | z | z
            · rw [q] at z; cases z
            · exact absurd z nb
            · subst z
              obtain ⟨ob, rfl⟩ := hA u q
              have e1 := (hok b _ q).1
              have e2 := (hok' b _ (un.frzs b ob _ q)).1
              rw [e] at e1; cases e1
              exact e2
        have more : ∀ p ∈ cs, ∃ xs : Array Value, s'.heap.get? p.2 = some { cls := .none, data := .fields xs } := fun p hp => by
          obtain ⟨xs, z⟩ := un.tbls p.2 #[] (hH p hp)
          exact ⟨_, hok' p.2 _ z⟩
        refine ⟨rfl, ⟨fun b o e => ?_, fun b o e => ?_⟩, os, bare⟩ <;> by_cases hb : b ∈ cs.map (·.2)
        · obtain ⟨p, hp, ep⟩ := List.mem_map.mp hb
          obtain ⟨xs, hm⟩ := more p hp
          rw [← ep] at e ⊢
          rw [hT p hp] at e; cases e
          exact .inr (.inl ⟨((C p hp).tab (hT p hp)).isCodeTable, rfl, #[], xs, rfl, by rw [Array.empty_append]; exact hm⟩)
        · exact .inl (same b o hb e)
        · obtain ⟨p, hp, ep⟩ := List.mem_map.mp hb
          obtain ⟨xs, hm⟩ := more p hp
          exact ⟨_, ep ▸ hm⟩
        · exact ⟨o, same b o hb e⟩
      | _ => exact False.elim hq
  cases hk : K.lookup a with
  | some o =>
    have e := KX a o hk
    rw [ha] at e; cases e
    have na : (if a ∈ cs.map (·.2) then some (HO.tbl #[]) else none) = none := if_neg aT
    have seq : ∃ (o : Obj) (its : Array Value) (m : Nat), K.lookup a = some o ∧ o.cls = .type "list" ∧ o.dict = none ∧ o.data = .seq its m ∧ its.size ≤ sizeLine ∧ Vals (ns.map V.int) its.toList := ⟨_, vs.toArray, _, hk, rfl, rfl, rfl, by rw [List.size_toArray, lenV]; omega, by simpa using rv⟩
    refine main (fun b => if b ∈ cs.map (·.2) then some (.tbl #[]) else none) (fun p hp => if_pos (inT p hp)) (fun b => ?_) (fun u z => by rw [na] at z; cases z) (.inr seq) (fun b u z => ?_) (fun z => absurd na z) (.inr ⟨na, seq⟩)
    · by_cases hb : b ∈ cs.map (·.2)
      · exact .inr (.inl hb)
      · exact .inl (if_neg hb)
    · by_cases hb : b ∈ cs.map (·.2)
      · cases (if_pos hb).symm.trans z
        exact isT b hb
      · cases (if_neg hb).symm.trans z
  | none =>
    have atA : (if a = a then some (HO.frz { cls := .type "list", data := .seq vs.toArray } (.lst (ns.map V.int))) else if a ∈ cs.map (·.2) then some (HO.tbl #[]) else none) = some (HO.frz { cls := .type "list", data := .seq vs.toArray } (.lst (ns.map V.int))) := if_pos rfl
    refine main (fun b => if b = a then some (.frz { cls := .type "list", data := .seq vs.toArray } (.lst (ns.map V.int))) else if b ∈ cs.map (·.2) then some (.tbl #[]) else none) (fun p hp => (if_neg (show ¬ p.2 = a from fun z => aT (z ▸ inT p hp))).trans (if_pos (inT p hp))) (fun b => ?_)
      (fun u z => ⟨_, (Option.some.inj (atA.symm.trans z)).symm⟩) (.inl (.inr ⟨_, atA⟩)) (fun b u z => ?_) (fun _ => hk) (.inl ⟨_, atA⟩)
    · by_cases hb : b = a
      · exact .inr (.inr hb)
      · by_cases hb2 : b ∈ cs.map (·.2)
        · exact .inr (.inl hb2)
        · exact .inl ((if_neg hb).trans (if_neg hb2))
    · by_cases hb : b = a
      · cases (if_pos hb).symm.trans z
        rw [hb]
        exact ⟨ha, by rw [List.length_map]; omega, vs, _, rv, ha⟩
      · have z1 := (if_neg hb).symm.trans z
        by_cases hb2 : b ∈ cs.map (·.2)
        · cases (if_pos hb2).symm.trans z1
          exact isT b hb2
        · cases (if_neg hb2).symm.trans z1
theorem walkG {l : PySem.W.OpenLaw} {n k : Nat} {q : Program} {loose : List Str} {XP : (Str → Option Value) → Heap → Prop} {YP : World → Heap → Prop} {d : DefRec} {x : Str} (hn : l.most = some n) (hn2 : n ≤ sizeLine) (hdf : d.params.defaults = []) (hr : Room k callerA)
    (F : ∀ (w : World) (mg : Str → Option Value) (fa : Addr) (h : Heap), YP w h → h.Ns mainGlobals mg → mg d.name = some (.ref fa) → ∃ K : PySem.W.Frag, K.In h ∧ Nonempty (LawG l.prog w K k n x mg fa h)) : PySem.W.WalkO q loose XP YP l.row.toRowW d [] (fun f vs => PySem.call f vs) := by
  refine Att.attach_callB hn hdf fun w s₀ s₁ mg mb fa o pm cd doc a vs ns G Y ho hd hcd hmg hobj hints hlen hbits hg => ?_
  obtain ⟨K, KX, ⟨L⟩⟩ := F w mg fa _ Y G.T.g hmg
  exact L.call KX G.T.g G.T.b G.T.builtins G.T.nolimit hg G.T.bmain hobj hints hlen hn2 hbits hr
end Ev
/-! from EDk.lean -/
set_option maxRecDepth 100000
set_option maxHeartbeats 4000000
/-! Ev: the deck of drawn numbers, as the world's own. -/
namespace Ev
open PySem PySem.Spec PyProof.Rows L2

/-- the keys of the deck's dict -/
structure DKeys where
  c : Str
  m : Str
  d : Str
  cm : c ≠ m
  cd : c ≠ d
  md : m ≠ d
/-- the deck: its dict, its list, what they hold -/
structure DeckD where
  a : Addr
  l : Addr
  cells : List Int
  mixed : Int
  draws : Int
abbrev SD := Option DeckD
def DeckD.kvs (k : DKeys) (dk : DeckD) : List (Key × V) := [(.inr k.c, .ref dk.l), (.inr k.m, .int dk.mixed), (.inr k.d, .int dk.draws)]
def DeckD.put (dk : DeckD) (b : Bool) (n : Int) : DeckD := if b then { dk with draws := n } else { dk with mixed := n }
def DeckD.get (dk : DeckD) (b : Bool) : Int := if b then dk.draws else dk.mixed
def DKeys.key (k : DKeys) (b : Bool) : Str := if b then k.d else k.m
/-- the world: the tables at tb, the deck -/
def Wdk (k : DKeys) (tb : Addr → Prop) : Wd SD where
  foot := fun s a => tb a ∨ ∃ dk, s = some dk ∧ (a = dk.a ∨ a = dk.l)
  inv := fun s _ H => (∀ a, tb a → ∃ ps, H a = some (.tbl ps) ∧ TriplesOk ps.toList) ∧ ∀ dk, s = some dk → H dk.a = some (.dK (dk.kvs k)) ∧ H dk.l = some (.lst (dk.cells.map V.int)) ∧ dk.cells.length ≤ 1000
  stay := fun s G G' H H' h _ e => ⟨fun a t => by
      obtain ⟨ps, h1, h2⟩ := h.1 a t
      exact ⟨ps, (e a (.inl t)).trans h1, h2⟩, fun dk q => by
      obtain ⟨h1, h2, h3⟩ := h.2 dk q
      exact ⟨(e _ (.inr ⟨dk, q, .inl rfl⟩)).trans h1, (e _ (.inr ⟨dk, q, .inr rfl⟩)).trans h2, h3⟩⟩
  there := fun s G H a h f => by
    rcases f with t | ⟨dk, q, e | e⟩
    · obtain ⟨ps, h1, _⟩ := h.1 a t
      exact ⟨_, h1⟩
    · exact ⟨_, e ▸ (h.2 dk q).1⟩
    · exact ⟨_, e ▸ (h.2 dk q).2.1⟩
  tb := tb
  tbFoot := fun _ _ t => .inl t
  tbAt := fun _ _ _ a h t => h.1 a t
  tbGrow := fun s G H a ps h t z => by
    have na : ∀ b u, H b = some u → (∀ q, u ≠ .tbl q) → b ≠ a := fun b u e n q => by
      obtain ⟨qs, h1, _⟩ := h.1 a t
      rw [q, h1] at e
      exact n qs (Option.some.inj e).symm
    refine ⟨fun b tb' => ?_, fun dk q => ?_⟩
    · by_cases e : b = a
      · subst e; exact ⟨ps, upd_same, z⟩
      · rw [upd_ne e]; exact h.1 b tb'
    · obtain ⟨h1, h2, h3⟩ := h.2 dk q
      rw [upd_ne (na _ _ h1 fun q e => nomatch e), upd_ne (na _ _ h2 fun q e => nomatch e)]
      exact ⟨h1, h2, h3⟩

/-! ### what the text does with it -/
def deckAt (s : SD) (Γ : List Sl) (i : Nat) : Option DeckD := match s, Γ[i]? with
  | some dk, some (.dat (.ref a)) => if a = dk.a then some dk else none
  | _, _ => none
def eDk (i : Nat) (b : Bool) : TEv SD := fun Γ => M.get.bind fun s => (M.opt (deckAt s Γ i)).bind fun dk => .pure (.dat (.int (dk.get b)), Γ)
def cDk (i : Nat) (b : Bool) (e : TEv SD) : TSv SD := fun Γ => (e Γ).bind fun p => (use p.2 p.1).bind fun x => (isI x).bind fun n => M.get.bind fun s => (M.opt (deckAt s p.2 i)).bind fun dk => (M.put (some (dk.put b n))).bind fun _ => .pure (.nx p.2)
def qDk (i : Nat) : TTv SD := fun Γ => M.get.bind fun s => (M.opt (deckAt s Γ i)).bind fun dk => .pure (!dk.cells.isEmpty, Γ)
def eDkPop (i : Nat) : TEv SD := fun Γ => M.get.bind fun s => (M.opt (deckAt s Γ i)).bind fun dk => (M.opt dk.cells[dk.cells.length - 1]?).bind fun n => (M.put (some { dk with cells := dk.cells.dropLast })).bind fun _ => .pure (.dat (.int n), Γ)
def eDkApp (i : Nat) (e : TEv SD) : TEv SD := fun Γ => M.get.bind fun s0 => (M.opt (deckAt s0 Γ i)).bind fun dk0 => (e Γ).bind fun p => (use p.2 p.1).bind fun x => (isI x).bind fun n => M.get.bind fun s => (M.opt (deckAt s p.2 i)).bind fun dk =>
  .need (dk.l = dk0.l ∧ dk.cells.length < 1000) ((M.put (some { dk with cells := dk.cells ++ [n] })).bind fun _ => .pure (.dat .non, p.2))
def isNo (s : SD) : Option Unit := match s with
  | none => some ()
  | _ => none
def eDkNew (c m d : TEv SD) : TEv SD := fun Γ => (c Γ).bind fun p => (m p.2).bind fun q => (d q.2).bind fun w => (use w.2 q.1).bind fun x => (isI x).bind fun mi => (use w.2 w.1).bind fun y => (isI y).bind fun di =>
  match p.1 with
  | .own (.lst ds) => (M.opt (intsOf ds)).bind fun ns => M.get.bind fun s => (M.opt (isNo s)).bind fun _ => .need (ns.length ≤ 1000) ((M.some fun _ : Addr × Addr => True).bind fun al => (M.put (some ⟨al.1, al.2, ns, mi, di⟩)).bind fun _ => .pure (.dat (.ref al.1), w.2))
  | _ => .fail

section
variable {S : Type} {K : PySem.W.Frag} {T : Nat → Option Addr} {W : Wd S} {P G H : Hp} {Γ : List Sl} {s s' : S} {σ : L2.St}
/-- the world changes one of its own -/
theorem Fr.world (F : Fr K T W P G Γ s σ H) {a : Addr} {o : HO} (hf : W.foot s a) (hs : ∀ b, W.foot s' b → W.foot s b) (hi : W.inv s' G (upd H a o)) : Fr K T W P G Γ s' σ (upd H a o) := by
  have nG : ∀ b u, G b = some u → b ≠ a := fun b u e z => by
    have := F.wf.gf a hf
    rw [← z, e] at this; cases this
  have nP : ∀ b u, P b = some u → b ≠ a := fun b u e z => F.wf.pf b u e (z ▸ hf)
  refine ⟨⟨fun b u e => by rw [upd_ne (nG b u e)]; exact F.wf.gh b u e, fun b u e => by rw [upd_ne (nP b u e)]; exact F.wf.ph b u e, F.wf.pg, fun b u e z => F.wf.pf b u e (hs b z), fun b z => F.wf.gf b (hs b z), hi⟩, F.len, F.dat, fun i d e => ?_, F.inj⟩
  obtain ⟨b, h1, h2, m⟩ := F.own i d e
  have nb : b ≠ a := fun z => m.f (z ▸ hf)
  exact ⟨b, h1, h2.mono (Sub.refl _) (by rw [upd_ne nb]), m.g, m.p, fun z => m.f (hs b z)⟩
end
section
variable {k : DKeys} {tb : Addr → Prop} {K : PySem.W.Frag} {T : Nat → Option Addr} {P G H : Hp} {Γ : List Sl} {s : SD} {σ : L2.St}
theorem deck_run {β : Type} {i : Nat} {f : DeckD → M SD β} {Q : β → SD → Prop} (F : Fr K T (Wdk k tb) P G Γ s σ H) (h : (M.get.bind fun s => (M.opt (deckAt s Γ i)).bind f).run s Q noX) :
    ∃ dk, s = some dk ∧ Γ[i]? = some (.dat (.ref dk.a)) ∧ σ[i]? = some (some (.ref dk.a)) ∧ H dk.a = some (.dK (dk.kvs k)) ∧ H dk.l = some (.lst (dk.cells.map V.int)) ∧ dk.cells.length ≤ 1000 ∧ (f dk).run s Q noX := by
  obtain ⟨dk, e, h⟩ := opt_run (o := deckAt s Γ i) h
  cases s with
  | none => cases e
  | some dk' =>
    cases eg : Γ[i]? with
    | none => simp only [deckAt, eg] at e; cases e
    | some sl =>
      cases sl with
      | dat d =>
        cases d with
        | ref a =>
          simp only [deckAt, eg] at e
          split at e
          · rename_i ea
            cases e
            subst ea
            obtain ⟨v, h1, h2⟩ := F.dat i _ eg
            cases h2
            obtain ⟨i1, i2, i3⟩ := F.wf.w.2 dk rfl
            exact ⟨dk, rfl, rfl, h1, i1, i2, i3, h⟩
          · cases e
        | _ => simp only [deckAt, eg] at e; cases e
      | _ => simp only [deckAt, eg] at e; cases e
theorem kvs_get (dk : DeckD) (b : Bool) : valV (dk.kvs k) (.inr (k.key b)) = some (.int (dk.get b)) := by
  have e1 : ¬ (Sum.inr k.c : Key) = .inr k.m := fun z => k.cm (Sum.inr.inj z)
  have e2 : ¬ (Sum.inr k.c : Key) = .inr k.d := fun z => k.cd (Sum.inr.inj z)
  have e3 : ¬ (Sum.inr k.m : Key) = .inr k.d := fun z => k.md (Sum.inr.inj z)
  cases b with
  | true => exact (valV_neg e2).trans ((valV_neg e3).trans (valV_pos rfl))
  | false => exact (valV_neg e1).trans (valV_pos rfl)
theorem kvs_cells (dk : DeckD) : valV (dk.kvs k) (.inr k.c) = some (.ref dk.l) := valV_pos rfl
theorem kvs_put (dk : DeckD) (b : Bool) (n : Int) : putK (dk.kvs k) (.inr (k.key b)) (.int n) = (dk.put b n).kvs k := by
  have e1 : ¬ (Sum.inr k.c : Key) = .inr k.m := fun z => k.cm (Sum.inr.inj z)
  have e2 : ¬ (Sum.inr k.c : Key) = .inr k.d := fun z => k.cd (Sum.inr.inj z)
  have e3 : ¬ (Sum.inr k.m : Key) = .inr k.d := fun z => k.md (Sum.inr.inj z)
  have e4 : ¬ (Sum.inr k.d : Key) = .inr k.m := fun z => k.md (Sum.inr.inj z).symm
  cases b with
  | true =>
    show putK (dk.kvs k) (.inr k.d) (.int n) = _
    unfold putK
    rw [if_pos (by simp [DeckD.kvs])]
    simp [DeckD.kvs, DeckD.put, k.cd, k.md]
  | false =>
    show putK (dk.kvs k) (.inr k.m) (.int n) = _
    unfold putK
    rw [if_pos (by simp [DeckD.kvs])]
    simp [DeckD.kvs, DeckD.put, k.cm, Ne.symm k.md]
theorem kvs_merge (dk : DeckD) : mergeK [] (dk.kvs k) = dk.kvs k := by
  simp [mergeK, putK, DeckD.kvs, k.cm, k.cd, k.md]
end
section
variable {k : DKeys} {tb : Addr → Prop} {X : Cx} {T : Nat → Option Addr} {i : Nat} {x : Str} {px ps pk pos : Pos} {j : Nat}
theorem le_dk (b : Bool) (σ : L2.St) (H : Hp) (Q : VK) : xE X.K T (Wdk k tb) (eDk i b) σ H Q → tDGet (tVar i) (tC (.str (k.key b))) σ H Q := fun ⟨P, G, Γ, s, F, h⟩ => by
  obtain ⟨dk, rfl, e1, h1, h2, h3, _, h⟩ := deck_run F h
  refine ⟨_, h1, dk.a, .int (dk.get b), rfl, ?_, h _ G H (Sub.refl _) F (.dat (.int _))⟩
  have := DGet.k (k := .inr (k.key b)) h2
  rw [kvs_get] at this
  exact this
theorem de_dk (b : Bool) (hu : X.A.units + 64 < cLine) (hN : X.N[i]? = some x) (hv : Vis X.env.scope x) (hs : NoSl (.Constant (.str (k.key b)) j pk)) (hd : (x == ("__debug__" : Str)) = false := by decide) (hcd : (x == ("__classdict__" : Str)) = false := by decide) :
    DE X T (Wdk k tb) (.Subscript (.Name x px) (.Constant (.str (k.key b)) j pk) ps) (eDk i b) := (pe_dget (by omega) (pe_var hN hv hd hcd) pe_str hs).weaken (le_dk b)
theorem ds_dk {ea : Expr} {a : TEv SD} (b : Bool) (hu : X.A.units + 64 < cLine) (hN : X.N[i]? = some x) (hv : Vis X.env.scope x) (ha : DE X T (Wdk k tb) ea a) (hd : (x == ("__debug__" : Str)) = false := by decide) (hcd : (x == ("__classdict__" : Str)) = false := by decide)
    (hs : swapsWith ea (some (.Subscript (.Name x px) (.Constant (.str (k.key b)) j pk) ps)) pos.line X.env = pure false := by rfl) : DS X T (Wdk k tb) (.Assign [.Subscript (.Name x px) (.Constant (.str (k.key b)) j pk) ps] ea pos) (cDk i b a) :=
  (ps_dput (by omega) (pe_var hN hv hd hcd) pe_str ha hs).weaken fun D0 σ H ⟨P, G, Γ, s, F, h⟩ => by
    refine xE.opd F (M.weak h fun p s1 h v G1 H1 u1 F1 o1 => ?_)
    obtain ⟨y, dy, h⟩ := use_run F1 o1 h
    obtain ⟨n, rfl, h⟩ := isI_run h
    obtain ⟨dk, rfl, e1, h1, h2, h3, hl, h⟩ := deck_run F1 h
    have e2 : v = .int n := dy.int
    subst e2
    refine ⟨_, h1, dk.a, _, rfl, DPut.k (k := .inr (k.key b)) h2 (by show 3 < sizeLine; decide), ?_⟩
    rw [kvs_put]
    have ne : dk.l ≠ dk.a := fun z => by rw [z, h2] at h3; cases h3
    have same : (dk.put b n).a = dk.a ∧ (dk.put b n).l = dk.l ∧ (dk.put b n).cells = dk.cells := by cases b <;> exact ⟨rfl, rfl, rfl⟩
    refine h σ G1 _ u1 (F1.world (s' := some (dk.put b n)) (.inr ⟨dk, rfl, .inl rfl⟩) (fun c z => ?_) ⟨fun c t => ?_, fun dk' q => ?_⟩)
    · rcases z with z | ⟨dk', q, z⟩
      · exact .inl z
      · cases q
        rw [same.1, same.2.1] at z
        exact .inr ⟨dk, rfl, z⟩
    · obtain ⟨qs, q1, q2⟩ := F1.wf.w.1 c t
      exact ⟨qs, by rw [upd_ne (fun z => by rw [z, h2] at q1; cases q1)]; exact q1, q2⟩
    · cases q
      rw [same.1, same.2.1, same.2.2]
      exact ⟨upd_same, by rw [upd_ne ne]; exact h3, hl⟩
/-- the deck's list changes -/
theorem deck_cells {K : PySem.W.Frag} {P G H : Hp} {Γ : List Sl} {σ : L2.St} {dk : DeckD} {ns : List Int} (F : Fr K T (Wdk k tb) P G Γ (some dk) σ H) (h2 : H dk.a = some (.dK (dk.kvs k))) (h3 : H dk.l = some (.lst (dk.cells.map V.int))) (hl : ns.length ≤ 1000) :
    Fr K T (Wdk k tb) P G Γ (some { dk with cells := ns }) σ (upd H dk.l (.lst (ns.map V.int))) := by
  have ne : dk.a ≠ dk.l := fun z => by rw [z, h3] at h2; cases h2
  refine F.world (.inr ⟨dk, rfl, .inr rfl⟩) (fun c z => ?_) ⟨fun c t => ?_, fun dk' q => ?_⟩
  · rcases z with z | ⟨dk', q, z⟩
    · exact .inl z
    · cases q; exact .inr ⟨dk, rfl, z⟩
  · obtain ⟨qs, q1, q2⟩ := F.wf.w.1 c t
    exact ⟨qs, by rw [upd_ne (fun z => by rw [z, h3] at q1; cases q1)]; exact q1, q2⟩
  · cases q
    exact ⟨by rw [upd_ne ne]; exact h2, upd_same, hl⟩
theorem cells_ref {H : Hp} {dk : DeckD} (h2 : H dk.a = some (.dK (dk.kvs k))) : DGet H dk.a (.str k.c) (some (.ref dk.l)) := by
  have := DGet.k (k := .inr k.c) h2
  rw [kvs_cells] at this
  exact this
theorem dp_ints {K : PySem.W.Frag} {H : Hp} : ∀ ns : List Int, DpAll K H (ns.map V.int) (ns.map PyData.int)
  | [] => .nil
  | n :: ns => .cons (.int n) (dp_ints ns)
theorem plain_ints : ∀ ns : List Int, PyData.plainAll (ns.map PyData.int) = true
  | [] => rfl
  | n :: ns => by rw [List.map_cons, PyData.plainAll, Bool.and_eq_true]; exact ⟨rfl, plain_ints ns⟩
theorem depth_ints : ∀ ns : List Int, PyData.depthAll (ns.map PyData.int) ≤ 1
  | [] => by decide
  | n :: ns => by
    have := depth_ints ns
    rw [List.map_cons]
    simp only [PyData.depthAll, PyData.depth]
    omega
theorem dt_dk {j' : Nat} (hu : X.A.units + 64 < cLine) (hN : X.N[i]? = some x) (hv : Vis X.env.scope x) (hs : NoSl (.Constant (.str k.c) j pk)) {pl : Pos} (hd : (x == ("__debug__" : Str)) = false := by decide) (hcd : (x == ("__classdict__" : Str)) = false := by decide) :
    DT X T (Wdk k tb) (.Compare (.Subscript (.Name x px) (.Constant (.str k.c) j pk) ps) [.NotEq] [.List [] pl] pos) (qDk i) := (pt_cmpR (op_neP hu) (pe_dget (by omega) (pe_var hN hv hd hcd) pe_str hs) (pe_lst pa_nil) (nomark _)).weaken fun σ H Q ⟨P, G, Γ, s, F, h⟩ => by
  obtain ⟨dk, rfl, e1, h1, h2, h3, hl, h⟩ := deck_run F h
  refine ⟨_, h1, dk.a, _, rfl, cells_ref h2, Nat.zero_le _, fun p hp => ?_⟩
  obtain ⟨F', m, off⟩ := F.new hp (.lst [])
  have np : dk.l ≠ p := fun z => by rw [z, hp] at h3; cases h3
  refine ⟨.list (dk.cells.map PyData.int), .list [], .lst (SqL.of (by rw [upd_ne np]; exact h3)) (dp_ints _), .lst (SqL.of upd_same) .nil, by rw [PyData.plain]; exact plain_ints _, rfl, by have := depth_ints dk.cells; simp only [PyData.depth]; omega, !dk.cells.isEmpty, ?_, h G _ (Sub.refl _) F'⟩
  cases dk.cells <;> rfl
theorem de_dkPop {apos : Pos} (hu : X.A.units + 64 < cLine) (hN : X.N[i]? = some x) (hv : Vis X.env.scope x) (hs : NoSl (.Constant (.str k.c) j pk)) (hd : (x == ("__debug__" : Str)) = false := by decide) (hcd : (x == ("__classdict__" : Str)) = false := by decide)
    (hbase : attributeBase (.Subscript (.Name x px) (.Constant (.str k.c) j pk) ps) "pop" X.env (eval (.Subscript (.Name x px) (.Constant (.str k.c) j pk) ps) X.env) = eval (.Subscript (.Name x px) (.Constant (.str k.c) j pk) ps) X.env := by rfl) (hline : (apos.endLine == pos.line) = true := by rfl) :
    DE X T (Wdk k tb) (.Call (.Attribute (.Subscript (.Name x px) (.Constant (.str k.c) j pk) ps) "pop" apos) [] [] pos) (eDkPop i) :=
  (pe_bm0 F.plainAttrs_list F.slot_list_pop F.type_list_pop mt_pop (pe_dget (by omega) (pe_var hN hv hd hcd) pe_str hs) hbase hline).weaken fun σ H Q ⟨P, G, Γ, s, F, h⟩ => by
    obtain ⟨dk, rfl, e1, h1, h2, h3, hl, h⟩ := deck_run F h
    obtain ⟨n, en, h⟩ := opt_run h
    refine ⟨_, h1, dk.a, _, rfl, cells_ref h2, .inl ⟨rfl, _, SqL.of h3⟩, dk.l, _, .int n, rfl, rfl, h3, by rw [List.length_map, List.getElem?_map, en]; rfl, ?_⟩
    have F' := deck_cells (ns := dk.cells.dropLast) F h2 h3 (by rw [List.length_dropLast]; omega)
    rw [List.map_dropLast] at F'
    exact h _ G _ (Sub.refl _) F' (.dat (.int _))
theorem de_dkApp {apos : Pos} {ea : Expr} {a : TEv SD} (hu : X.A.units + 64 < cLine) (hN : X.N[i]? = some x) (hv : Vis X.env.scope x) (hs : NoSl (.Constant (.str k.c) j pk)) (ha : DE X T (Wdk k tb) ea a) (hd : (x == ("__debug__" : Str)) = false := by decide) (hcd : (x == ("__classdict__" : Str)) = false := by decide)
    (hbase : attributeBase (.Subscript (.Name x px) (.Constant (.str k.c) j pk) ps) "append" X.env (eval (.Subscript (.Name x px) (.Constant (.str k.c) j pk) ps) X.env) = eval (.Subscript (.Name x px) (.Constant (.str k.c) j pk) ps) X.env := by rfl) (hline : (apos.endLine == pos.line) = true := by rfl)
    (hfew : ((backTo pos (starEach [ea] X.env)).all (fun x => !x.1) && (backToKw pos (keywordEach [] X.env)).all (fun x => x.1.isSome) && decide ([ea].length + ([] : List Keyword).length + (if ([] : List Keyword).isEmpty then 0 else 1) < 30)) = true := by rfl)
    (hst : starEach [ea] X.env = (false, eval ea X.env) :: starEach [] X.env := by rfl) (hplain : (backTo pos (starEach [] X.env)).any (·.1) = false := by rfl) :
    DE X T (Wdk k tb) (.Call (.Attribute (.Subscript (.Name x px) (.Constant (.str k.c) j pk) ps) "append" apos) [ea] [] pos) (eDkApp i a) :=
  (pe_bm F.plainAttrs_list F.slot_list_append F.type_list_append mt_append (pe_dget (by omega) (pe_var hN hv hd hcd) pe_str hs) (pa_cons ha pa_nil hst) hbase hfew hline hst hplain).weaken fun σ H Q ⟨P, G, Γ, s, F, h⟩ => by
    obtain ⟨dk, rfl, e1, h1, h2, h3, hl, h⟩ := deck_run F h
    refine ⟨_, h1, dk.a, _, rfl, cells_ref h2, .inl ⟨rfl, _, SqL.of h3⟩, xE.opd F (M.weak h fun p s1 h v G1 H1 u1 F1 o1 => ?_)⟩
    obtain ⟨y, dy, h⟩ := use_run F1 o1 h
    obtain ⟨n, rfl, h⟩ := isI_run h
    obtain ⟨dk1, rfl, e1', h1', h2', h3', hl', ⟨hz1, hz2⟩, h⟩ := deck_run F1 h
    have F' := deck_cells (ns := dk1.cells ++ [n]) F1 h2' h3' (by rw [List.length_append, List.length_singleton]; omega)
    rw [List.map_append] at F'
    have e2 : v = .int n := dy.int
    subst e2
    exact ⟨dk.l, _, .int n, rfl, rfl, hz1 ▸ h3', by rw [List.length_map, sizeLine_eq]; omega, h _ G1 _ u1 (by rw [← hz1]; exact F') (.dat .non)⟩
/-- the deck is made -/
theorem de_dkNew {e1 e2 e3 : Expr} {c m d : TEv SD} {p1 p2 p3 : Pos} {j1 j2 j3 : Nat} (h1 : DE X T (Wdk k tb) e1 c) (h2 : DE X T (Wdk k tb) e2 m) (h3 : DE X T (Wdk k tb) e3 d) :
    DE X T (Wdk k tb) (.Dict [some (.Constant (.str k.c) j1 p1), some (.Constant (.str k.m) j2 p2), some (.Constant (.str k.d) j3 p3)] [e1, e2, e3] pos) (eDkNew c m d) :=
  (pe_disp (pps_cons pe_str h1 (pps_cons pe_str h2 (pps_cons pe_str h3 pps_nil))) rfl rfl (by simp) (by show 3 ≤ 15; decide)).weaken fun σ H Q ⟨P, G, Γ, s, F, h⟩ => by
    intro da hda
    obtain ⟨F0, m0, off0⟩ := F.new hda (.dK [])
    have F0' := F0.hold m0 upd_same off0
    refine xE.by F0' (M.weak h fun p s1 h v G1 H1 u1 F1 r1 => ?_)
    obtain ⟨P1, F1', o1⟩ := Ow.of F1 r1
    refine xE.opd F1' (M.weak h fun q s2 h w G2 H2 u2 F2 o2 => ?_)
    refine xE.opd F2 (M.weak h fun r s3 h z G3 H3 u3 F3 o3 => ?_)
    obtain ⟨y, dy, h⟩ := use_run F3 (o2.mono u3) h
    obtain ⟨mi, rfl, h⟩ := isI_run (x := y) h
    obtain ⟨y3, dy3, h⟩ := use_run F3 o3 h
    obtain ⟨di, rfl, h⟩ := isI_run (x := y3) h
    have ew : w = .int mi := dy.int
    have ez : z = .int di := dy3.int
    subst ew ez
    obtain ⟨p', Γ'⟩ := p
    have o1' := (o1.mono (u2.trans u3))
    cases o1' with
    | dat _ => exact h.elim
    | slot _ => exact h.elim
    | @own la o dd n ob =>
      cases dd with
      | lst ds =>
        obtain ⟨ns, en, h⟩ := opt_run (o := intsOf ds) h
        obtain ⟨u, eu, hz, h⟩ := opt_run (o := isNo s3) h
        have es : s3 = none := by
          cases s3 with
          | none => rfl
          | some _ => cases eu
        subst es
        obtain ⟨xs, rfl, rx⟩ := ob
        have exs : xs = ns.map V.int := by
          have : ∀ {ds : List D} {xs : List V} {ns : List Int}, DRs X.K T G3 xs ds → intsOf ds = some ns → xs = ns.map V.int := fun {ds} => by
            induction ds with
            | nil => intro xs ns r e; cases r; cases e; rfl
            | cons d ds ih =>
              intro xs ns r e
              cases d with
              | int i =>
                unfold intsOf at e
                cases q : intsOf ds with
                | none => rw [q] at e; cases e
                | some ns' =>
                  rw [q] at e; cases e
                  cases r with
                  | cons h r =>
                    cases h
                    rw [ih r q]; rfl
              | _ => cases e
          exact this rx en
        subst exs
        obtain ⟨F4, m4, off4, e4⟩ := F3.back n
        have la_ne : la ≠ da := fun z => by rw [z, upd_same] at n; cases n
        have nP : P da = none := m0.p
        obtain ⟨F5, m5, off5, e5⟩ := F4.back nP
        refine ⟨e5, [(.inr k.c, .ref la), (.inr k.m, .int mi), (.inr k.d, .int di)], rfl, by show 3 ≤ 15; decide, ?_⟩
        have hk := kvs_merge (k := k) ⟨da, la, ns, mi, di⟩
        unfold DeckD.kvs at hk
        rw [hk]
        have mla : P la = none := by
          cases q : P la with
          | none => rfl
          | some u => rw [upd_ne la_ne, q] at n; cases n
        have F6 : Fr X.K T (Wdk k tb) P G3 r.2 (some ⟨da, la, ns, mi, di⟩) σ (upd H3 da (.dK [(.inr k.c, .ref la), (.inr k.m, .int mi), (.inr k.d, .int di)])) := by
          have nG : ∀ b u, G3 b = some u → b ≠ da := fun b u e z => by
            have := m5.g
            rw [← z, e] at this; cases this
          have nPd : ∀ b u, P b = some u → b ≠ da := fun b u e z => by rw [z, nP] at e; cases e
          refine ⟨⟨fun b u e => by rw [upd_ne (nG b u e)]; exact F5.wf.gh b u e, fun b u e => by rw [upd_ne (nPd b u e)]; exact F5.wf.ph b u e, F5.wf.pg, fun b u e z => ?_, fun b z => ?_, ⟨fun t ht => ?_, fun dk' q => ?_⟩⟩, F5.len, F5.dat, fun i d e => ?_, F5.inj⟩
          · rcases z with z | ⟨dk', q, z | z⟩
            · exact F5.wf.pf b u e (.inl z)
            · cases q; exact nPd b u e z
            · cases q
              have z : b = la := z
              rw [z, mla] at e; cases e
          · rcases z with z | ⟨dk', q, z | z⟩
            · exact F5.wf.gf b (.inl z)
            · cases q
              have z : b = da := z
              rw [z]; exact m5.g
            · cases q
              have z : b = la := z
              rw [z]; exact m4.g
          · obtain ⟨qs, q1, q2⟩ := F5.wf.w.1 t ht
            exact ⟨qs, by rw [upd_ne (fun z => by rw [z, e5] at q1; cases q1)]; exact q1, q2⟩
          · cases q
            exact ⟨upd_same, by rw [upd_ne la_ne]; exact e4, hz⟩
          · obtain ⟨b, b1, b2, b3⟩ := F5.own i d e
            have nb : b ≠ da := fun z => off5 i d e (z ▸ b1)
            refine ⟨b, b1, b2.mono (Sub.refl _) (by rw [upd_ne nb]), b3.g, b3.p, fun z => ?_⟩
            rcases z with z | ⟨dk', q, z | z⟩
            · exact b3.f (.inl z)
            · cases q; exact nb z
            · cases q
              have z : b = la := z
              exact off4 i d e (z ▸ b1)
        exact h (da, la) True.intro _ G3 _ (u1.trans (u2.trans u3)) F6 (.dat (.ref da))
      | _ => exact ob.elim
end
end Ev
/-! from E15.lean -/
set_option maxRecDepth 100000
set_option maxHeartbeats 4000000
/-! Ev, part 15: keywords; defs as values; a module's table of defs. -/
namespace Ev
open PySem PySem.Spec PyProof.Rows L2

/-- n positional values, m keywords' ones, in the parameters' order -/
def permL {α : Type} (n m : Nat) (pm : List Nat) (us ws : List α) : List α := if us.length = n ∧ ws.length = m then pm.filterMap fun i => (us ++ ws)[i]? else []
section
variable {S : Type}
def eCallK (F : List D → M S D) (n m : Nat) (pm : List Nat) (es ks : TEs S) : TEv S := fun Γ => (es Γ).bind fun p => (ks p.2).bind fun q => (M.opt (frzs q.2 p.1)).bind fun a => (M.opt (frzs a.2 q.1)).bind fun b => (F (permL n m pm a.1 b.1)).bind fun d => .pure (.dat d, b.2)
def fnAt (Γ : List Sl) (i : Nat) : Option Nat := match Γ[i]? with
  | some (.dat (.fn g)) => some g
  | _ => none
def eCallV (Fs : Nat → List D → M S D) (ar : Nat → Nat) (n i : Nat) (es : TEs S) : TEv S := fun Γ => (M.opt (fnAt Γ i)).bind fun g => .need (ar g = n) (eCall (Fs g) es Γ)
def isS : D → M S Str
  | .str z => .pure z
  | _ => .fail
def eTab (tab : List (Str × D)) (e : TEv S) : TEv S := fun Γ => (e Γ).bind fun p => (use p.2 p.1).bind fun x => (isS x).bind fun z => (M.opt (tab.lookup z)).bind fun d => .pure (.dat d, p.2)
end
theorem DRs.fmap {K : PySem.W.Frag} {T : Nat → Option Addr} {G : Hp} {vs : List V} {ds : List D} (r : DRs K T G vs ds) : ∀ pm : List Nat, DRs K T G (pm.filterMap fun i => vs[i]?) (pm.filterMap fun i => ds[i]?)
  | [] => .nil
  | i :: pm => by
    rw [List.filterMap_cons, List.filterMap_cons]
    cases e : ds[i]? with
    | none =>
      have e' : vs[i]? = none := List.getElem?_eq_none_iff.mpr (by rw [r.length]; exact List.getElem?_eq_none_iff.mp e)
      rw [e']; exact DRs.fmap r pm
    | some d =>
      obtain ⟨v, e', h⟩ := r.get e
      rw [e']; exact .cons h (DRs.fmap r pm)
theorem DRs.perm {K : PySem.W.Frag} {T : Nat → Option Addr} {G : Hp} {vs ws : List V} {ds es : List D} {n m : Nat} {pm : List Nat} (r : DRs K T G vs ds) (q : DRs K T G ws es) : DRs K T G (permL n m pm vs ws) (permL n m pm ds es) := by
  unfold permL
  rw [r.length, q.length]
  split
  · exact (r.append q).fmap pm
  · exact .nil
theorem Vals.fmap {vs : List V} {us : List Value} (r : Vals vs us) : ∀ pm : List Nat, Vals (pm.filterMap fun i => vs[i]?) (pm.filterMap fun i => us[i]?)
  | [] => .nil
  | i :: pm => by
    rw [List.filterMap_cons, List.filterMap_cons]
    cases e : vs[i]? with
    | none => rw [r.none_of e]; exact Vals.fmap r pm
    | some v =>
      obtain ⟨u, e', h⟩ := r.get e
      rw [e']; exact .cons h (Vals.fmap r pm)
theorem Vals.perm {vs zs : List V} {us ws : List Value} {n m : Nat} {pm : List Nat} (r : Vals vs us) (q : Vals zs ws) : Vals (permL n m pm vs zs) (permL n m pm us ws) := by
  unfold permL
  rw [r.length, q.length]
  split
  · exact Vals.fmap (r.append q) pm
  · exact .nil

section
variable {S : Type} {X : Cx} {T : Nat → Option Addr} {W : Wd S} {ea : Expr} {es : List Expr} {ms ks : TEs S} {a : TEv S} {x : Str} {p pos : Pos} {n : Nat} {F : List D → M S D} {kws : List Keyword}
theorem PK.weaken {X : Cx} {e : List Keyword} {t t' : TA} (h : PK X e t) (f : ∀ σ H Q, t' σ H Q → t σ H Q) : PK X e t' := ⟨fun pos pins s σ H Q I q => h.run pos pins s σ H Q I (f _ _ _ q)⟩
variable (X T W) in
abbrev DK (e : List Keyword) (m : TEs S) : Prop := PK X e (xA X.K T W m)
theorem dk_nil : DK X T W [] (sNil : TEs S) := PK.weaken pk_nil fun σ H Q ⟨P, G, Γ, s, F, h⟩ => h [] G H (Sub.refl _) F True.intro
theorem dk_cons {nm : Option Str} {kpos : Pos} (ha : DE X T W ea a) (hr : DK X T W kws ms) : DK X T W (⟨nm, ea, kpos⟩ :: kws) (sCons a ms) := PK.weaken (pk_cons ha hr) fun σ H Q ⟨P, G, Γ, s, F, h⟩ => by
  refine xE.opd F (M.weak h fun p s1 h v G1 H1 u1 F1 o1 => ?_)
  exact xA.by F1 (M.weak h fun q s2 h vs G2 H2 u2 F2 o2 => h (v :: vs) G2 H2 (u1.trans u2) F2 ⟨o1.mono u2, o2⟩)
/-- what is known of a def that is called by keywords -/
structure CalleeK (X : Cx) (T : Nat → Option Addr) (W : Wd S) (x : Str) (n : Nat) (F : List D → M S D) (kn : List Str) (np : Nat) (pm : List Nat) : Prop where
  ex : ∃ (k : Nat) (f : Addr) (fd : FuncData) (ps : List Str), FnG X.prog X.w X.K X.mg X.base CX0 k f fd ps (spF X.K T W n F) ∧ Room k X.A ∧ X.mg x = some (.ref f) ∧ PySem.W.keepIn X.K (.ref f) = true ∧ KBinds X.K fd ps kn (permL np kn.length pm) (permL np kn.length pm)
theorem frzs_len : ∀ {rs : List Rv} {Γ Γ' : List Sl} {ds : List D}, frzs Γ rs = some (ds, Γ') → ds.length = rs.length
  | [], _, _, _, e => by cases e; rfl
  | r :: rs, Γ, Γ', ds, e => by
    unfold frzs at e
    split at e
    · split at e
      · rename_i e2
        cases e
        rw [List.length_cons, List.length_cons, frzs_len e2]
      · cases e
    · cases e
theorem le_callK {pm : List Nat} {np nk : Nat} {E : XK} (hn1 : ∀ (Γ : List Sl) (s : S) (Q : List Rv × List Sl → S → Prop), (ms Γ).run s Q noX → (ms Γ).run s (fun p s' => Q p s' ∧ p.1.length = np) noX) (hn2 : ∀ (Γ : List Sl) (s : S) (Q : List Rv × List Sl → S → Prop), (ks Γ).run s Q noX → (ks Γ).run s (fun p s' => Q p s' ∧ p.1.length = nk) noX)
    (hpm : (pm.all fun i => decide (i < np + nk)) = true) (hpn : pm.length = n) (σ : L2.St) (H : Hp) (Q : VK) : xE X.K T W (eCallK F np nk pm ms ks) σ H Q → xA X.K T W ms σ H fun vs H1 => xA X.K T W ks σ H1 fun zs H2 => spF X.K T W n F (permL np nk pm vs zs) H2 Q E := fun ⟨P, G, Γ, s, F0, h⟩ => by
  refine xA.by F0 (M.weak (hn1 Γ s _ h) fun p s1 ⟨h, hl1⟩ vs G1 H1 u1 F1 o1 => ?_)
  refine xA.by F1 (M.weak (hn2 p.2 s1 _ h) fun q s2 ⟨h, hl2⟩ zs G2 H2 u2 F2 o2 => ?_)
  obtain ⟨⟨ds, Γ3⟩, e3, h⟩ := opt_run h
  obtain ⟨G3, u3, F3, r3⟩ := OPs.frz F2 (o1.mono u2) e3
  obtain ⟨⟨es, Γ4⟩, e4, h⟩ := opt_run h
  obtain ⟨G4, u4, F4, r4⟩ := OPs.frz F3 (o2.mono u3) e4
  have d1 : ds.length = np := (frzs_len e3).trans hl1
  have d2 : es.length = nk := (frzs_len e4).trans hl2
  have len : (permL np nk pm ds es).length = n := by
    unfold permL
    rw [if_pos ⟨d1, d2⟩, ← hpn]
    have : ∀ l : List Nat, (l.all fun i => decide (i < np + nk)) = true → (l.filterMap fun i => (ds ++ es)[i]?).length = l.length := fun l => by
      induction l with
      | nil => exact fun _ => rfl
      | cons i l ih =>
        intro hl
        rw [List.all_cons, Bool.and_eq_true, decide_eq_true_eq] at hl
        rw [List.filterMap_cons, List.getElem?_eq_getElem (by rw [List.length_append, d1, d2]; exact hl.1)]
        simp [ih hl.2]
    exact this pm hpm
  exact ⟨_, G4, _, s2, F4.call, (r3.mono u4).perm r4, len, M.weak (m := F (permL np nk pm ds es)) h fun d s3 h v G5 H5 u5 w5 dr => h v G5 H5 (u1.trans (u2.trans (u3.trans (u4.trans u5)))) (F4.back_call u5 w5) (.dat dr)⟩
/-- f(k = e, ..) -/
theorem de_callK {kn : List Str} {pm : List Nat} {nk : Nat} (hgd : X.A.guards = some []) (c : CalleeK X T W x n F kn 0 pm) (hg : Gl X x) (ha : DK X T W kws ks) (hlen : kn.length = nk) (hn : ∀ (Γ : List Sl) (s : S) (Q : List Rv × List Sl → S → Prop), (ks Γ).run s Q noX → (ks Γ).run s (fun p s' => Q p s' ∧ p.1.length = nk) noX)
    (hpm : (pm.all fun i => decide (i < 0 + nk)) = true := by rfl) (hpn : pm.length = n := by rfl) (hdb : (x == ("__debug__" : Str)) = false := by decide) (hall : (backToKw pos (keywordEach kws X.env)).all (·.1.isSome) = true := by rfl) (hks : (backToKw pos (keywordEach kws X.env)).filterMap (·.1) = kn := by rfl)
    (hpl : ((backTo pos (starEach [] X.env)).any (·.1) || (backToKw pos (keywordEach kws X.env)).any (·.1.isNone)) = false := by rfl) : DE X T W (.Call (.Name x p) [] kws pos) (eCallK F 0 nk pm sNil ks) := by
  subst hlen
  obtain ⟨k, f, fd, ps, Fo, hr, hm, hk, hb⟩ := c.ex
  refine ⟨fun pins s σ H Q I h => wpAny_Call_Name_kw (ld_glob I hg hm ?_ hdb)⟩
  obtain ⟨P, G, Γ, s0, F0, h⟩ := le_callK (E := fun _ _ _ => False) lenN hn hpm hpn σ H Q h
  have h2 := h [] G H (Sub.refl _) F0 True.intro
  refine PySem.W.callWith_KW0 (h₀ := X.base) I.ok.mod.kin hk hall (thn (ha.run pos pins s σ H _ I h2) fun ws s2 ⟨zs, H2, J2, rz, q2⟩ => ⟨J2.kIn, ?_⟩) hpl
  rw [hks]
  have r2 := hb.rel (vs := []) (us := []) .nil rz
  have hl : (permL 0 kn.length pm [] ws).length = ps.length := r2.length ▸ Fo.len _ _ _ _ q2
  refine wpAny_call (codeAny_mono (callG Fo hr hgd passes0 J2 (hb.to s2 [] ws J2.kIn hl) r2 q2) fun r s' hq => ?_)
  cases r with
  | error e => exact hq
  | ok fl =>
    obtain ⟨u, rfl, q⟩ := hq
    exact q

/-! ### defs as values -/
/-- what is known of the defs that stand as values -/
structure CalleeV (X : Cx) (T : Nat → Option Addr) (W : Wd S) (ar : Nat → Nat) (Fs : Nat → List D → M S D) : Prop where
  ex : ∀ g f, T g = some f → ∃ (k : Nat) (fd : FuncData) (ps : List Str), FnG X.prog X.w X.K X.mg X.base CX0 k f fd ps (spF X.K T W (ar g) (Fs g)) ∧ Room k X.A ∧ PySem.W.keepIn X.K (.ref f) = true ∧ Binds X.K fd ps []
theorem de_callV {i : Nat} {Fs : Nat → List D → M S D} {ar : Nat → Nat} (hgd : X.A.guards = some []) (c : CalleeV X T W ar Fs) (hN : X.N[i]? = some x) (hv : Vis X.env.scope x) (ha : DA X T W (ea :: es) ms) (hn : ∀ (Γ : List Sl) (s : S) (Q : List Rv × List Sl → S → Prop), (ms Γ).run s Q noX → (ms Γ).run s (fun p s' => Q p s' ∧ p.1.length = n) noX)
    (hdb : (x == ("__debug__" : Str)) = false := by decide) (hcd : (x == ("__classdict__" : Str)) = false := by decide) (he : starEach (ea :: es) X.env = (false, eval ea X.env) :: starEach es X.env := by rfl) (hpl : (backTo pos (starEach es X.env)).any (·.1) = false := by rfl) : DE X T W (.Call (.Name x p) (ea :: es) [] pos) (eCallV Fs ar n i ms) := by
  refine ⟨fun pins s σ H Q I h => ?_⟩
  obtain ⟨P, G, Γ, s0, F0, h⟩ := h
  obtain ⟨g, eg, h⟩ := opt_run (o := fnAt Γ i) h
  have eg' : Γ[i]? = some (.dat (.fn g)) := by
    unfold fnAt at eg
    split at eg
    · rename_i e; cases eg; exact e
    · cases eg
  obtain ⟨v, h1, h2⟩ := F0.dat i _ eg'
  cases h2 with
  | @fn f _ hT =>
    obtain ⟨k, fd, ps, Fo, hr, hk, hb⟩ := c.ex g f hT
    obtain ⟨har, h⟩ := h
    rw [har] at Fo
    have q := le_call (E := fun _ _ _ => False) hn σ H Q ⟨P, G, Γ, s0, F0, h⟩
    refine wpAny_Call_Name_kw (thn ((pe_var (pos := p) hN hv hdb hcd).run pins s σ H (fun v H1 => v = .ref f ∧ H1 = H) I ⟨.ref f, h1, rfl, rfl⟩) fun u s1 ⟨v, H1, I1, r1, e1, e2⟩ => ?_)
    subst e1 e2
    cases r1
    exact PySem.W.callWith_K (h₀ := X.base) I.ok.mod.kin hk (thn (ha.run pos pins s1 σ _ _ I1 q) fun us s2 ⟨vs, H2, J, r, q2⟩ => ⟨J.kIn, run_fnG Fo hr hgd hb passes0 J r q2⟩) he hpl
/-- TAB[e], TAB a dict of the module with texts as keys -/
theorem de_tab {tab : List (Str × D)} {d : Addr} {des : Array DictEntry} {dn : Nat} (D0 : KDict X.K X.w d des dn) (hg : Gl X x) (hm : X.mg x = some (.ref d)) (hs : NoSl ea) (ha : DE X T W ea a) (hd : ∀ z dd, tab.lookup z = some dd → ∃ u v, PySem.W.nsIn X.K d z = some (some u) ∧ RelV v u ∧ CD X.K T v dd)
    (hdb : (x == ("__debug__" : Str)) = false := by decide) : DE X T W (.Subscript (.Name x p) ea pos) (eTab tab a) := ⟨fun pins s σ H Q I h => by
  obtain ⟨P, G, Γ, s0, F0, h⟩ := h
  refine subD_of PySem.F.slot_dict_getitem.lookup hs (ld_glob I hg hm ?_ hdb)
  refine thn (ha.run pins s σ H _ I (xE.opd F0 (M.weak h fun p s1 h v G1 H1 u1 F1 o1 => show (fun v H1 => ∃ z dd, v = V.str z ∧ tab.lookup z = some dd ∧ ∀ w, CD X.K T w dd → Q w H1) v H1 by
    obtain ⟨y, dy, h⟩ := use_run F1 o1 h
    cases y with
    | str z =>
      obtain ⟨dd, ed, h⟩ := opt_run (o := tab.lookup z) h
      exact ⟨z, dd, dy.str, ed, fun w hw => h w G1 H1 u1 F1 (.dat (hw G1))⟩
    | _ => exact h.elim))) fun iv s1 ⟨v, H1, J, rv, z, dd, e, ed, q⟩ => ?_
  subst e
  obtain ⟨u, w, e1, rw', cw⟩ := hd z dd ed
  exact ⟨kd_type D0 J, op_item_kd D0 pins s1 σ H1 (.ref d) (.str z) (.ref d) iv Q J rfl rv ⟨z, u, w, rfl, rfl, e1, rw', q w cw⟩⟩⟩
end
end Ev
/-! from E16.lean -/
set_option maxRecDepth 100000
set_option maxHeartbeats 4000000
/-! Ev, part 16: short forms; a, b = x, y through a tuple. -/
namespace Ev
open PySem PySem.Spec PyProof.Rows L2

section
variable {S : Type} {X : Cx} {T : Nat → Option Addr} {W : Wd S} {ea eb ec : Expr} {a b c : TEv S} {pos : Pos}
theorem put_comm {i j : Nat} (h : i ≠ j) {r q : Rv} {Γ : List Sl} : putRv i r (putRv j q Γ) = putRv j q (putRv i r Γ) := by
  cases r <;> cases q <;> first | rfl | exact (List.set_comm _ _ h.symm)
/-- through a tuple that is laid and unpacked -/
theorem ds_parU {i j : Nat} {x y : Str} {px py pt : Pos} {kt k2 pt2} (hc : X.calm = true) (hN : X.N.Nodup) (hi : X.N[i]? = some x) (hj : X.N[j]? = some y) (hij : i ≠ j) (hx : Loc X.env.scope x) (hy : Loc X.env.scope y) (fx : X.fn x = true ∨ X.env.scope.names.lookup x = some .local) (fy : X.fn y = true ∨ X.env.scope.names.lookup y = some .local)
    (ha : DE X T W ea a) (hb : DE X T W eb b) (hs : swapsWithSole [.Tuple [.Name x px, .Name y py] kt pt] (.Tuple [ea, eb] k2 pt2) pos.line X.env = pure false := by rfl) (hw : swappedStores [.Tuple [.Name x px, .Name y py] kt pt] (.Tuple [ea, eb] k2 pt2) X.env = pure none := by rfl)
    (h0 : (assignEach [.Tuple [.Name x px, .Name y py] kt pt] X.env).map (·.2) = [assign (.Tuple [.Name x px, .Name y py] kt pt) X.env] := by rfl) (s1 : (assignEach [.Name x px, .Name y py] X.env).map (·.2) = assign (.Name x px) X.env :: (assignEach [.Name y py] X.env).map (·.2) := by rfl) (s2 : (assignEach [.Name y py] X.env).map (·.2) = assign (.Name y py) X.env :: (assignEach [] X.env).map (·.2) := by rfl)
    (hn : (assignEach [.Name x px, .Name y py] X.env).length = 2 := by rfl) (hst : (assignEach [.Name x px, .Name y py] X.env).findIdx? (·.1) = none := by rfl)
    (h1 : starEach [ea, eb] X.env = (false, eval ea X.env) :: starEach [eb] X.env := by rfl) (h2 : starEach [eb] X.env = (false, eval eb X.env) :: starEach [] X.env := by rfl) : DS X T W (.Assign [.Tuple [.Name x px, .Name y py] kt pt] (.Tuple [ea, eb] k2 pt2) pos) (cPar i j a b) :=
  (ps_asg (pe_tupF (pa_cons ha (pa_cons hb pa_nil h2) h1)) (pg_tup hc (pgs_cons (pg_name hN hi hx fx) (pgs_cons (pg_name hN hj hy fy) pgs_nil s2) s1) hn hst) hs hw h0).weaken fun D0 σ H ⟨P, G, Γ, s, F, h⟩ => by
    refine xE.by F (M.weak h fun p s1 h v G1 H1 u1 F1 r1 => ?_)
    obtain ⟨P1, F1', o1⟩ := Ow.of F1 r1
    refine xE.by F1' (M.weak h fun q s2 h w G2 H2 u2 F2 r2 => ?_)
    obtain ⟨P2, F2', o2⟩ := Ow.of F2 r2
    refine ⟨by show 2 ≤ sizeLine; decide, fun t ob ht hd => ⟨t, [v, w], rfl, Or.inl (Or.inr ⟨ob, upd_same⟩), rfl, v, [w], rfl, w, [], rfl, rfl, ?_⟩⟩
    obtain ⟨F3, _, _⟩ := F2'.new ht (.frz ob (.tup [v, w]))
    obtain ⟨ra, Γa, Ga, ua, Fa, oa, na, h⟩ := fix_run F3 (o1.mono u2) h
    obtain ⟨rb, Γb, Gb, ub, Fb, ob', nb, h⟩ := fix_run Fa (o2.mono ua) h
    rw [List.set_comm _ _ hij]
    exact h _ Gb _ ((u1.trans u2).trans (ua.trans ub)) (put_ok (put_ok Fb ob' nb) ((oa.mono ub).slots na) na)
theorem ds_par3U {i j l : Nat} {x y z : Str} {px py pz pt : Pos} {kt k2 pt2} (hc : X.calm = true) (hN : X.N.Nodup) (hi : X.N[i]? = some x) (hj : X.N[j]? = some y) (hl : X.N[l]? = some z) (hij : i ≠ j) (hil : i ≠ l) (hjl : j ≠ l) (hx : Loc X.env.scope x) (hy : Loc X.env.scope y) (hz : Loc X.env.scope z)
    (fx : X.fn x = true ∨ X.env.scope.names.lookup x = some .local) (fy : X.fn y = true ∨ X.env.scope.names.lookup y = some .local) (fz : X.fn z = true ∨ X.env.scope.names.lookup z = some .local) (ha : DE X T W ea a) (hb : DE X T W eb b) (hd : DE X T W ec c)
    (hs : swapsWithSole [.Tuple [.Name x px, .Name y py, .Name z pz] kt pt] (.Tuple [ea, eb, ec] k2 pt2) pos.line X.env = pure false := by rfl) (hw : swappedStores [.Tuple [.Name x px, .Name y py, .Name z pz] kt pt] (.Tuple [ea, eb, ec] k2 pt2) X.env = pure none := by rfl)
    (h0 : (assignEach [.Tuple [.Name x px, .Name y py, .Name z pz] kt pt] X.env).map (·.2) = [assign (.Tuple [.Name x px, .Name y py, .Name z pz] kt pt) X.env] := by rfl)
    (s1 : (assignEach [.Name x px, .Name y py, .Name z pz] X.env).map (·.2) = assign (.Name x px) X.env :: (assignEach [.Name y py, .Name z pz] X.env).map (·.2) := by rfl) (s2 : (assignEach [.Name y py, .Name z pz] X.env).map (·.2) = assign (.Name y py) X.env :: (assignEach [.Name z pz] X.env).map (·.2) := by rfl)
    (s3 : (assignEach [.Name z pz] X.env).map (·.2) = assign (.Name z pz) X.env :: (assignEach [] X.env).map (·.2) := by rfl) (hn : (assignEach [.Name x px, .Name y py, .Name z pz] X.env).length = 3 := by rfl) (hst : (assignEach [.Name x px, .Name y py, .Name z pz] X.env).findIdx? (·.1) = none := by rfl)
    (h1 : starEach [ea, eb, ec] X.env = (false, eval ea X.env) :: starEach [eb, ec] X.env := by rfl) (h2 : starEach [eb, ec] X.env = (false, eval eb X.env) :: starEach [ec] X.env := by rfl) (h3 : starEach [ec] X.env = (false, eval ec X.env) :: starEach [] X.env := by rfl) :
    DS X T W (.Assign [.Tuple [.Name x px, .Name y py, .Name z pz] kt pt] (.Tuple [ea, eb, ec] k2 pt2) pos) (cPar3 i j l a b c) :=
  (ps_asg (pe_tupF (pa_cons ha (pa_cons hb (pa_cons hd pa_nil h3) h2) h1)) (pg_tup hc (pgs_cons (pg_name hN hi hx fx) (pgs_cons (pg_name hN hj hy fy) (pgs_cons (pg_name hN hl hz fz) pgs_nil s3) s2) s1) hn hst) hs hw h0).weaken fun D0 σ H ⟨P, G, Γ, s, F, h⟩ => by
    refine xE.by F (M.weak h fun p s1 h v G1 H1 u1 F1 r1 => ?_)
    obtain ⟨P1, F1', o1⟩ := Ow.of F1 r1
    refine xE.by F1' (M.weak h fun q s2 h w G2 H2 u2 F2 r2 => ?_)
    obtain ⟨P2, F2', o2⟩ := Ow.of F2 r2
    refine xE.by F2' (M.weak h fun q3 s3 h w3 G3 H3 u3 F3 r3 => ?_)
    obtain ⟨P3, F3', o3⟩ := Ow.of F3 r3
    refine ⟨by show 3 ≤ sizeLine; decide, fun t ob ht hd => ⟨t, [v, w, w3], rfl, Or.inl (Or.inr ⟨ob, upd_same⟩), rfl, v, [w, w3], rfl, w, [w3], rfl, w3, [], rfl, rfl, ?_⟩⟩
    obtain ⟨F4, _, _⟩ := F3'.new ht (.frz ob (.tup [v, w, w3]))
    obtain ⟨ra, Γa, Ga, ua, Fa, oa, na, h⟩ := fix_run F4 (o1.mono (u2.trans u3)) h
    obtain ⟨rb, Γb, Gb, ub, Fb, ob', nb, h⟩ := fix_run Fa (o2.mono (u3.trans ua)) h
    obtain ⟨rc, Γc, Gc, uc, Fc, oc, nc, h⟩ := fix_run Fb (o3.mono (ua.trans ub)) h
    have e : ((σ.set i (some v)).set j (some w)).set l (some w3) = ((σ.set l (some w3)).set j (some w)).set i (some v) := by
      rw [List.set_comm _ _ hij, List.set_comm _ _ hil, List.set_comm _ _ hjl]
    rw [e]
    exact h _ Gc _ (((u1.trans u2).trans u3).trans ((ua.trans ub).trans uc)) (put_ok (put_ok (put_ok Fc oc nc) ((ob'.mono uc).slots nb) nb) ((oa.mono (ub.trans uc)).slots na) na)
/-- a name that is read -/
theorem v_ (i : Nat) {x : Str} (hN : X.N[i]? = some x := by rfl) (hv : Vis X.env.scope x := by first | exact .inl rfl | exact .inr (.inl rfl) | exact .inr (.inr rfl)) (hd : (x == ("__debug__" : Str)) = false := by decide) (hcd : (x == ("__classdict__" : Str)) = false := by decide) : DE X T W (.Name x pos) (eVar i) := de_var hN hv hd hcd
theorem g_ (i : Nat) {x : Str} (hN : X.N.Nodup) (hi : X.N[i]? = some x := by rfl) (hx : Loc X.env.scope x := by first | exact .inl rfl | exact .inr rfl) (hf : X.fn x = true ∨ X.env.scope.names.lookup x = some .local := by first | exact .inl rfl | exact .inr rfl) : DG X (.Name x pos) (.name i) := dg_name hN hi hx hf
theorem set_ (i : Nat) {x : Str} {pos' : Pos} (hN : X.N.Nodup) (ha : DE X T W ea a) (hi : X.N[i]? = some x := by rfl) (hx : Loc X.env.scope x := by first | exact .inl rfl | exact .inr rfl) (hfn : X.fn x = true ∨ X.env.scope.names.lookup x = some .local := by first | exact .inl rfl | exact .inr rfl)
    (hs : swapsWith ea (some (.Name x pos')) pos.line X.env = pure false := by rfl) : DS X T W (.Assign [.Name x pos'] ea pos) (cSet i a) := ds_set hN hi hx hfn ha hs
/-- of a def that a caller may know -/
structure Known (prog : Program) (w : World) (K : PySem.W.Frag) (mg : Str → Option Value) (base : Heap) (T : Nat → Option Addr) (W : Wd S) (k : Nat) (x : Str) (n : Nat) (F : List D → M S D) : Prop where
  ex : ∃ (f : Addr) (fd : FuncData) (ps : List Str), FnG prog w K mg base CX0 k f fd ps (spF K T W n F) ∧ mg x = some (.ref f) ∧ PySem.W.keepIn K (.ref f) = true ∧ Binds K fd ps []
theorem Known.to {X : Cx} {k k' : Nat} {x : Str} {n : Nat} {F : List D → M S D} (h : Known X.prog X.w X.K X.mg X.base T W k x n F) (hr : Room k' X.A) (hk : k ≤ k' := by decide) : Callee X T W x n F := by
  obtain ⟨f, fd, ps, h1, h2, h3, h4⟩ := h.ex
  exact ⟨k, f, fd, ps, h1, hr.mono hk, h2, h3, h4⟩
structure KnownK (prog : Program) (w : World) (K : PySem.W.Frag) (mg : Str → Option Value) (base : Heap) (T : Nat → Option Addr) (W : Wd S) (k : Nat) (x : Str) (n : Nat) (F : List D → M S D) (kn : List Str) (np : Nat) (pm : List Nat) : Prop where
  ex : ∃ (f : Addr) (fd : FuncData) (ps : List Str), FnG prog w K mg base CX0 k f fd ps (spF K T W n F) ∧ mg x = some (.ref f) ∧ PySem.W.keepIn K (.ref f) = true ∧ KBinds K fd ps kn (permL np kn.length pm) (permL np kn.length pm)
theorem KnownK.to {X : Cx} {k k' : Nat} {x : Str} {n : Nat} {F : List D → M S D} {kn : List Str} {np : Nat} {pm : List Nat} (h : KnownK X.prog X.w X.K X.mg X.base T W k x n F kn np pm) (hr : Room k' X.A) (hk : k ≤ k' := by decide) : CalleeK X T W x n F kn np pm := by
  obtain ⟨f, fd, ps, h1, h2, h3, h4⟩ := h.ex
  exact ⟨k, f, fd, ps, h1, hr.mono hk, h2, h3, h4⟩
structure KnownV (prog : Program) (w : World) (K : PySem.W.Frag) (mg : Str → Option Value) (base : Heap) (T : Nat → Option Addr) (W : Wd S) (k : Nat) (ar : Nat → Nat) (Fs : Nat → List D → M S D) : Prop where
  ex : ∀ g f, T g = some f → ∃ (fd : FuncData) (ps : List Str), FnG prog w K mg base CX0 k f fd ps (spF K T W (ar g) (Fs g)) ∧ PySem.W.keepIn K (.ref f) = true ∧ Binds K fd ps []
theorem KnownV.to {X : Cx} {k k' : Nat} {ar : Nat → Nat} {Fs : Nat → List D → M S D} (h : KnownV X.prog X.w X.K X.mg X.base T W k ar Fs) (hr : Room k' X.A) (hk : k ≤ k' := by decide) : CalleeV X T W ar Fs := ⟨fun g f e => by
  obtain ⟨fd, ps, h1, h2, h3⟩ := h.ex g f e
  exact ⟨k, fd, ps, h1, hr.mono hk, h2, h3⟩⟩
theorem own_cx {prog : Program} {w : World} {K : PySem.W.Frag} {mg : Str → Option Value} {base : Heap} {N : List Str} {qual : Str} {scope : Scope} {f : Addr} {cd : Value} {A : Around} {outer : List Env} {s : Shared} {H : Hp} {E : XK} :
    PassesOwn (model prog w) (cxOf CX0 prog w K mg base N qual scope f cd A outer s H E).A (cxOf CX0 prog w K mg base N qual scope f cd A outer s H E).env (cxOf CX0 prog w K mg base N qual scope f cd A outer s H E).xe :=
  passes_of (X := cxOf CX0 prog w K mg base N qual scope f cd A outer s H E) (K := fun e s'' => CX0 outer H s E e s'') rfl
end
end Ev
/-! from E17.lean -/
set_option maxRecDepth 100000
set_option maxHeartbeats 4000000
/-! Ev, part 17: what a row's file asks: scopes by decision, defs by what the head tells. -/
namespace Ev
open PySem PySem.Spec PyProof.Rows L2
def genC (N : List Str) (sc scope : Scope) (own : List (Str × Nat)) : Bool := blkC N sc scope own && ((!scope.isCoroutine) && ((scope.names.all fun y => match y.2 with | .cell => false | _ => true) && (match scope.names.lookup (".0" : Str) with | some .local => true | _ => false)))
theorem gen_by {N : List Str} {sc scope : Scope} {own : List (Str × Nat)} (h : genC N sc scope own = true) : GenOk N sc scope own := by
  unfold genC at h
  simp only [Bool.and_eq_true, List.all_eq_true] at h
  obtain ⟨h1, h2, h3, h4⟩ := h
  have b := blkOk_by h1
  refine ⟨b.kind, by (cases e : scope.isCoroutine with | false => rfl | true => (rw [e] at h2; cases h2)), fun y hy e => ?_, ?_, b.uniq, b.ix, b.free, fun y hy e => b.own y hy (.inl e)⟩
  · have q := h3 y hy
    rw [e] at q; cases q
  · split at h4
    · assumption
    · cases h4
theorem room_u {k : Nat} {A : Around} (r : Room k A) : A.units + 64 < cLine := by have := r.un; omega
section
variable {prog : Program} {w : World} {K : PySem.W.Frag} {mg : Str → Option Value} {base : Heap} {S : Type} {T : Nat → Option Addr} {W : Wd S} {k : Nat} {x : Str} {params : Arguments} {body : List Stmt} {scope : Scope} {kws : List (Str × V)} {a : Addr} {fd : FuncData} {N ps : List Str} {b : TSv S}
/-- a def, by its body -/
theorem fn_at (F : FunD K x x params body scope [] kws a fd) (S0 : FnScope N ps scope)
    (hbody : ∀ (cdv : Value) (A : Around) (outer : List Env) (s : Shared) (H : Hp) (E : XK), PySem.W.codeIn K cdv x = true → (∃ oc od osl, K.lookup a = some ⟨oc, od, .func fd, osl⟩ ∧ fd.code = cdv) → Room k (A.deeper (envOfC x scope s.heap.objs.size a cdv)) → (A.deeper (envOfC x scope s.heap.objs.size a cdv)).guards = some [] → DSs (cxOf CX0 prog w K mg base N x scope a cdv A outer s H E) T W body b) :
    FnG prog w K mg base CX0 (k + 1) a fd ps (spF K T W ps.length (runD N.length b)) := by
  obtain ⟨oc, od, dV, kV, doc, pm, an, cdv, ct, osl, rfl, lk, hcd, _, _⟩ := F.ex
  exact fn_run lk hcd S0 fun A outer s H E hr hg => hbody cdv A outer s H E hcd ⟨_, _, _, lk, rfl⟩ hr hg
theorem known_of (F : FunD K x x params body scope [] kws a fd) (hm : mg x = some (.ref a)) (S0 : FnScope N ps scope)
    (hb : ∀ (kV doc pm : Value) (an : Option Addr) (cdv ct : Value) (us : List Value), us.length = ps.length → bindArgs (PySem.W.fnOf x x params body scope .none kV doc pm an cdv ct) ⟨us, []⟩ = pure (ps.zip us))
    (hbody : ∀ (cdv : Value) (A : Around) (outer : List Env) (s : Shared) (H : Hp) (E : XK), PySem.W.codeIn K cdv x = true → (∃ oc od osl, K.lookup a = some ⟨oc, od, .func fd, osl⟩ ∧ fd.code = cdv) → Room k (A.deeper (envOfC x scope s.heap.objs.size a cdv)) → (A.deeper (envOfC x scope s.heap.objs.size a cdv)).guards = some [] → DSs (cxOf CX0 prog w K mg base N x scope a cdv A outer s H E) T W body b) :
    Known prog w K mg base T W (k + 1) x ps.length (runD N.length b) := ⟨a, fd, ps, fn_at F S0 hbody, hm, F.kp, F.bindsN hb⟩
theorem knownK_of {n : Nat} {f : List D → M S D} {kn : List Str} {pm : List Nat} (h : FnG prog w K mg base CX0 k a fd ps (spF K T W n f)) (F : FunD K x x params body scope [] kws a fd) (hm : mg x = some (.ref a))
    (hb : ∀ (kV doc pm0 : Value) (an : Option Addr) (cdv ct : Value) (ws : List Value), ws.length = kn.length → bindArgs (PySem.W.fnOf x x params body scope .none kV doc pm0 an cdv ct) ⟨[], kn.zip ws⟩ = pure (ps.zip (pm.filterMap fun i => ws[i]?))) (hne : ps.length ≠ 0) : KnownK prog w K mg base T W k x n f kn 0 pm := by
  refine ⟨a, fd, ps, h, hm, F.kp, ⟨fun s us ws _ hl => ?_, fun r rz => Vals.perm r rz⟩⟩
  unfold permL at hl ⊢
  split at hl
  · rename_i hc
    obtain ⟨h1, h2⟩ := hc
    rw [if_pos ⟨h1, h2⟩]
    cases us with
    | cons _ _ => cases h1
    | nil =>
      obtain ⟨oc, od, dV, kV, doc, pm0, an, cdv, ct, osl, rfl, lk, hcd, hD, hK⟩ := F.ex
      rcases hD with ⟨_, rfl⟩ | ⟨e, _⟩
      · exact .of_eq (hb kV doc pm0 an cdv ct ws h2)
      · exact absurd rfl e
  · exact absurd hl.symm hne
end
end Ev
/-! from E18.lean -/
set_option maxRecDepth 100000
set_option maxHeartbeats 4000000
/-! Ev, part 18: a module's int. -/
namespace Ev
open PySem PySem.Spec PyProof.Rows L2
section
variable {S : Type} {X : Cx} {T : Nat → Option Addr} {W : Wd S} {pos : Pos}
theorem de_gint {x : Str} {i : Int} (hg : Gl X x) (hm : ∃ t, X.mg x = some (.int i t)) (hd : (x == ("__debug__" : Str)) = false := by decide) : DE X T W (.Name x pos) (eK (.int i)) := by
  obtain ⟨t, ht⟩ := hm
  exact de_glob hg ht (v := .int i) ⟨t, rfl⟩ (fun _ => .int i) hd
end
end Ev
/-! from E19.lean -/
set_option maxRecDepth 100000
set_option maxHeartbeats 4000000
/-! Ev, part 19: the law's promise at the head's heap. -/
namespace Ev
open PySem PySem.Spec PyProof.Rows L2
theorem mem_lookup {α β : Type} [BEq α] [LawfulBEq α] {k : α} {v : β} : ∀ {xs : List (α × β)}, xs.lookup k = some v → (k, v) ∈ xs
  | [], e => nomatch e
  | (a, b) :: xs, e => by
    rw [List.lookup_cons] at e
    cases h : k == a with
    | true => rw [h] at e; cases e; cases eq_of_beq h; exact .head _
    | false => rw [h] at e; exact .tail _ (mem_lookup e)
section
variable {K : PySem.W.Frag} {T : Nat → Option Addr} {k : DKeys} {tb : Addr → Prop} {H : Hp} {a : Addr}
open Classical in
theorem sp_law {f : List D → M SD D} {ns : List Int} (hH : ∀ b, H b = none ∨ tb b ∨ b = a) (ht : ∀ b, tb b → H b = some (.tbl #[])) (ha : tb a → False) (hS : SqL K H a (ns.map V.int))
    (h : (f [.scr (ns.map D.int)]).run none (fun d _ => d = .bl true) noX) : spF K T (Wdk k tb) 1 f [.ref a] H (fun v _ => v = .bl true) fun _ _ _ => False := by
  have eG : (fun b => if tb b then none else H b : Hp) a = H a := if_neg ha
  have dints : ∀ (G : Hp) (ns : List Int), DRs K T G (ns.map V.int) (ns.map D.int) := fun G ns => by
    induction ns with
    | nil => exact .nil
    | cons n r ih => exact .cons (.int n) ih
  have hS' : SqL K (fun b => if tb b then none else H b : Hp) a (ns.map V.int) := by
    rcases hS with hS | hS
    · refine .inl ?_
      rcases hS with hS | ⟨o, hS⟩
      · exact .inl (eG.trans hS)
      · exact .inr ⟨o, eG.trans hS⟩
    · exact .inr hS
  refine ⟨fun _ => none, fun b => if tb b then none else H b, [.scr (ns.map D.int)], none, ⟨fun b o e => ?_, fun b o e => (nomatch e), fun b o e => (nomatch e), fun b o e => (nomatch e), fun b e => ?_, ?_⟩, .cons (.scr hS' (dints _ _)) .nil, rfl, ?_⟩
  · by_cases q : tb b
    · cases (if_pos q).symm.trans e
    · exact (if_neg q).symm.trans e
  · rcases e with e | ⟨dk, e, _⟩
    · exact if_pos e
    · cases e
  · exact ⟨fun b e => ⟨#[], ht b e, by simp [TriplesOk]⟩, fun dk e => (nomatch e)⟩
  · refine (f _).mono _ _ _ _ _ (fun d s' e v G' H' _ _ r => ?_) (fun x s e => e) h
    cases e; cases r; rfl
end
end Ev
/-! from E20.lean -/
set_option maxRecDepth 100000
set_option maxHeartbeats 4000000
/-! Ev, part 20: t[::-1] of tuples, sorted, calls with some arguments by keyword. -/
namespace Ev
open PySem PySem.Spec PyProof.Rows L2
/-! ### t[::-1] -/
section
variable {prog : Program} {w : World} {A : Around} {E : Value → Shared → Prop} {s : Shared}
theorem adjust_rev (n : Nat) : Builtin.Slice.sliceAdjust none none (-1) (n : Int) = ((n : Int) - 1, -1) := by
  unfold Builtin.Slice.sliceAdjust
  have h1 : (-1 : Int) < 0 := by omega
  simp only [h1, if_true]
theorem places_rev (n : Nat) : Builtin.Slice.slicePlaces ((n : Int) - 1) (-1) (-1) = n := by
  unfold Builtin.Slice.slicePlaces
  have h1 : ¬ ((-1 : Int) > 0) := by omega
  simp only [h1, if_false]
  have e : (-(-1 : Int)) = 1 := by omega
  rw [e, Int.ediv_one]
  split <;> omega
theorem fm_congr {α β : Type} {f g : α → Option β} : ∀ {l : List α}, (∀ x ∈ l, f x = g x) → l.filterMap f = l.filterMap g
  | [], _ => rfl
  | x :: l, h => by
    rw [List.filterMap_cons, List.filterMap_cons, h x (.head _), fm_congr fun y m => h y (.tail _ m)]
theorem pick_rev (xs : Array Value) : ((List.range xs.size).filterMap fun (m : Nat) => xs[(((xs.size : Int) - 1) + (m : Int) * (-1)).toNat]?).toArray = xs.toList.reverse.toArray := by
  congr 1
  refine List.ext_getElem? fun i => ?_
  have e : (List.range xs.size).filterMap (fun (m : Nat) => xs[(((xs.size : Int) - 1) + (m : Int) * (-1)).toNat]?) = (List.range xs.size).map fun m => xs.toList.reverse.getD m .none := by
    rw [← List.filterMap_eq_map]
    refine fm_congr fun m hm => ?_
    have hm := List.mem_range.mp hm
    have e1 : (((xs.size : Int) - 1) + (m : Int) * (-1)).toNat = xs.size - 1 - m := by omega
    have hl : m < xs.toList.reverse.length := by simpa using hm
    show xs[(((xs.size : Int) - 1) + (m : Int) * (-1)).toNat]? = some (xs.toList.reverse.getD m .none)
    rw [e1, List.getD_eq_getElem?_getD, List.getElem?_eq_getElem hl, Array.getElem?_eq_getElem (by omega)]
    simp
  rw [e, List.getElem?_map]
  by_cases h : i < xs.size
  · have hl : i < xs.toList.reverse.length := by simpa using h
    rw [List.getElem?_range h, Option.map_some, List.getD_eq_getElem?_getD, List.getElem?_eq_getElem hl]; rfl
  · rw [List.getElem?_eq_none (by simpa using h), List.getElem?_eq_none (by simpa using h)]; rfl
theorem sliceApplied_rev {sl : Addr} {vl vu vs : Value} {n : Nat} {Q : Int × Int × Nat → Shared → Prop} (hs : s.heap.IsSliceOf sl vl vu vs) (pl : IsPart vl none) (pu : IsPart vu none) (ps : IsPart vs (some (-1)))
    (h : Q ((n : Int) - 1, -1, n) s) : wpAny (model prog w) A (Builtin.Slice.sliceApplied (.ref sl) (pure (n : Int))) Q E s := by
  obtain ⟨os, hos, hcs, hds⟩ := id hs
  unfold Builtin.Slice.sliceApplied Builtin.Slice.sliceFields
  refine wpAny_bind (wpAny_bind (wpAny_field hos hds (x := vl) rfl (wpAny_bind (wpAny_field hos hds (x := vu) rfl (wpAny_bind (wpAny_field hos hds (x := vs) rfl (wpAny_pure ?_)))))))
  refine wpAny_bind (HT.slicePart_ ps ?_)
  show wpAny _ _ (if ((-1 : Int) == 0) = true then _ else _) _ _ s
  rw [if_neg (by decide)]
  refine wpAny_bind (HT.slicePart_ pl (wpAny_bind (HT.slicePart_ pu (wpAny_bind (wpAny_pure ?_)))))
  show wpAny _ _ (match Builtin.Slice.sliceAdjust none none (-1) (n : Int) with | (lo, hi) => pure (lo, (-1 : Int), Builtin.Slice.slicePlaces lo hi (-1))) _ _ s
  rw [adjust_rev n]
  show wpAny _ _ (pure ((n : Int) - 1, (-1 : Int), Builtin.Slice.slicePlaces ((n : Int) - 1) (-1) (-1))) _ _ s
  rw [places_rev]
  exact wpAny_pure h
theorem getItem_tuple_rev {t sl : Addr} {items : Array Value} {vl vu vs : Value} {Q : Value → Shared → Prop} (ht : IsTup s.heap t items) (hs : s.heap.IsSliceOf sl vl vu vs) (pl : IsPart vl none) (pu : IsPart vu none) (ps : IsPart vs (some (-1)))
    (h : Q (.ref s.heap.objs.size) { s with heap := s.heap.push { cls := .type "tuple", data := .seq items.toList.reverse.toArray } })
    (hsz : items.size ≤ sizeLine) : wpAny (model prog w) A (getItem (.ref t) (.ref sl)) Q E s := by
  have htake : sizeOk (.seq items.toList.reverse.toArray) := by
    show items.toList.reverse.toArray.size ≤ sizeLine
    rw [List.size_toArray, List.length_reverse, Array.length_toList]
    omega
  obtain ⟨os, hos, hcs, hds⟩ := id hs
  have hTs : s.TypeIs (.ref sl) "slice" := ⟨os, hos, hcs⟩
  unfold getItem
  try with_reducible refine wpAny_holding ?_
  first | refine wpAny_bind (wpAny_pure ?_) | skip
  refine wpAny_bind (wpAny_sequenceKey ht.typeIs (by decide) ?_)
  refine wpAny_bind (wpAny_callSpecial?_slot (name := Str.ofString "__getitem__") ht.typeIs PyProof.Rows.slot_tuple_getitem
    (wpAny_call_entry PyProof.Rows.slot_tuple_getitem ht.typeIs entry_tuple_getitem ?_ (args_tuple_getitem _ _)))
  show wpAny _ _ (Builtin.Tuple.tupleItemsOf (.ref t) >>= _) _ _ s
  refine wpAny_bind (tupleItemsOf_ ht ?_)
  refine wpAny_bind (wpAny_typeOf hTs ?_)
  rw [if_pos (by decide)]
  refine wpAny_bind (sliceApplied_rev hs pl pu ps ?_)
  have hno : ¬ ((((items.size : Int) - 1) == 0 && (-1 : Int) == 1 && items.size == items.size) = true) := by
    intro q
    rw [Bool.and_eq_true, Bool.and_eq_true] at q
    exact absurd q.1.2 (by decide)
  show wpAny _ _ (if (((items.size : Int) - 1) == 0 && (-1 : Int) == 1 && items.size == items.size) = true then _ else _) _ _ s
  rw [if_neg hno, pick_rev]
  first
    | exact wpAny_bind (m := Builtin.Tuple.tupleExact _) (wpAny_newObj_type (wpAny_pure ⟨_, rfl, wpAny_pure h⟩) htake)
    | exact wpAny_bind (m := Builtin.Tuple.tupleExact _) (wpAny_newObj_type (wpAny_bind (wpAny_pure (wpAny_pure ⟨_, rfl, wpAny_pure h⟩))) htake)
    | exact wpAny_bind (wpAny_bind (m := Builtin.Tuple.tupleExact _) (wpAny_newObj_type (wpAny_pure (wpAny_pure ⟨_, rfl, wpAny_pure h⟩)) htake))
    | exact wpAny_bind (wpAny_bind (m := Builtin.Tuple.tupleExact _) (wpAny_newObj_type (wpAny_pure ⟨_, rfl, wpAny_pure h⟩) htake))
end
section
variable {X : Cx}
def tRevS (K : PySem.W.Frag) (te : TE) : TE := fun σ H Q => te σ H fun x H1 => ∃ a xs, x = .ref a ∧ ((SqL K H1 a xs ∧ ∀ p, H1 p = none → Q (.ref p) (upd H1 p (.lst xs.reverse))) ∨ (SqT K H1 a xs ∧ NewF H1 Q xs.reverse))
theorem pe_revS {e : Expr} {te : TE} {k : Nat} {p1 p2 p3 pos : Pos} (he : PE X e te) : PE X (.Subscript e (.Slice none none (some (.UnaryOp .USub (.Constant (.int 1) k p1) p2)) p3) pos) (tRevS X.K te) := by
  refine ⟨fun pins s σ H Q I h => ?_⟩
  refine Subscript_ (thn (he.run pins s σ H _ I h) fun v s1 ⟨x, H1, I1, r1, q1⟩ => ?_)
  obtain ⟨a, xs, ex, hq⟩ := q1
  subst ex
  cases r1
  have hst : PO X (some (.UnaryOp .USub (.Constant (.int 1) k p1) p2)) (tPart (tUn (rU fun i => .int (-i)) (tC (.int 1)))) := po_some (pe_un un_neg pe_int)
  refine wpAny_Slice (thn (po_none.run pins s1 σ H1 (fun o H2 => o = none ∧ H2 = H1) I1 ⟨rfl, rfl⟩) fun vl s2 ⟨l, H2, I2, pl, el, e2⟩ => ?_)
  subst el e2
  refine thn (po_none.run pins s2 σ H2 (fun o H3 => o = none ∧ H3 = H2) I2 ⟨rfl, rfl⟩) fun vu s3 ⟨u, H3, I3, pu, eu, e3⟩ => ?_
  subst eu e3
  refine thn (hst.run pins s3 σ H3 (fun o H4 => o = some (-1) ∧ H4 = H3) I3 ⟨1, rfl, -1, rfl, rfl, rfl⟩) fun vs s4 ⟨o, H4, I4, ps, eo, e4⟩ => ?_
  subst eo e4
  have I5 : Inv X pins σ H4 { s4 with heap := s4.heap.push { cls := .type "slice", data := .fields #[vl, vu, vs] } } := I4.kept (t' := s4.toks) fun b ob q => Heap.get?_push_of_some _ q
  rcases hq with ⟨hx, q⟩ | ⟨hx, q⟩
  · obtain ⟨its, r, ht, hz⟩ := I5.list hx
    have hlen := r.length
    show wpAny (model X.prog X.w) X.A (subscriptTail e (.Slice none none (some (.UnaryOp .USub (.Constant (.int 1) k p1) p2)) p3) (.ref a) (.ref s4.heap.objs.size)) (EP X pins σ Q) X.xe { s4 with heap := s4.heap.push { cls := .type "slice", data := .fields #[vl, vu, vs] } }
    refine tail_any (ops := [.ref a, .ref s4.heap.objs.size]) ht.isList.typeIs (PySem.slot_list_getitem.lookup) ?_ (by with_unfolding_all rfl)
    refine wpAny_getItem_list_slice ht.isList (Heap.IsSliceOf.new _ vl vu vs) pl pu ps (by decide) ?_ (by rw [List.size_toArray]; omega)
    rw [PySem.W.krv_pick]
    refine ⟨.ref _, _, I5.laid (t' := s4.toks) (o := .lst xs.reverse) (fun b ob q => Heap.get?_push_of_some _ q) (Nat.le_refl _) ?_, rfl, q _ (I5.hok.fresh (Nat.le_refl _))⟩
    exact ⟨by rw [List.length_reverse]; exact hz, _, 0, r.reverse, Heap.get?_push_size _ rfl⟩
  · obtain ⟨its, r, ht, hz⟩ := I5.tuple hx
    have hlen : its.toArray.size = xs.length := r.length.symm
    show wpAny (model X.prog X.w) X.A (subscriptTail e (.Slice none none (some (.UnaryOp .USub (.Constant (.int 1) k p1) p2)) p3) (.ref a) (.ref s4.heap.objs.size)) (EP X pins σ Q) X.xe { s4 with heap := s4.heap.push { cls := .type "slice", data := .fields #[vl, vu, vs] } }
    refine tail_any (ops := [.ref a, .ref s4.heap.objs.size]) ht.typeIs (slot_tuple_getitem.lookup) ?_ (by with_unfolding_all rfl)
    refine getItem_tuple_rev ht (Heap.IsSliceOf.new _ vl vu vs) pl pu ps ?_ (hlen ▸ hz)
    exact tnew (t' := s4.toks) I5 r.reverse (by rw [List.length_reverse]; exact hz) q
end
def opRevS {S : Type} : D → M S Rv
  | .lst xs => .pure (.own (.lst xs.reverse))
  | .tup xs => .pure (.dat (.tup xs.reverse))
  | _ => .fail
def eRevS {S : Type} (a : TEv S) : TEv S := fun Γ => (a Γ).bind fun p => (use p.2 p.1).bind fun x => (opRevS x).bind fun r => .pure (r, p.2)
section
variable {S : Type} {X : Cx} {T : Nat → Option Addr} {W : Wd S} {ea : Expr} {a : TEv S} {pos : Pos}
theorem de_revS {k : Nat} {p1 p2 p3 : Pos} (ha : DE X T W ea a) : DE X T W (.Subscript ea (.Slice none none (some (.UnaryOp .USub (.Constant (.int 1) k p1) p2)) p3) pos) (eRevS a) := (pe_revS ha).weaken fun σ H Q ⟨P, G, Γ, s, F, h⟩ => by
  refine xE.opd F (M.weak h fun p s1 h v G1 H1 u1 F1 o1 => ?_)
  obtain ⟨x, dx, h⟩ := use_run F1 o1 h
  cases x with
  | lst ds =>
    obtain ⟨q, xs, rfl, ha, r⟩ := dx.lst F1.wf.gh
    exact ⟨q, xs, rfl, .inl ⟨SqL.of ha, Kont.newL (ds := ds.reverse) (kont u1 h) F1 r.reverse⟩⟩
  | tup ds =>
    obtain ⟨q, xs, rfl, ha, r⟩ := dx.tup F1.wf.gh
    exact ⟨q, xs, rfl, .inr ⟨ha.sq, Kont.newT (ds := ds.reverse) (kont u1 h) F1 r.reverse⟩⟩
  | _ => exact h.elim
end
end Ev
/-! from E21.lean -/
set_option maxRecDepth 100000
set_option maxHeartbeats 4000000
/-! Ev, part 21: sorted of a tuple or a list of ints. -/
namespace Ev
open PySem PySem.Spec PyProof.Rows L2
section
variable {prog : Program} {w : World} {A : Around} {E : Value → Shared → Prop} {s : Shared}
theorem collect_tup {l : Addr} {vs : List Value} {Q : List Value → Shared → Prop} (hl : IsTup s.heap l vs.toArray)
    (h : Q vs { s with heap := (s.heap.push (seqObj "list" #[] 0)).update s.heap.objs.size (Obj.mapSeq (· ++ vs.toArray)) }) (hsz : vs.length ≤ sizeLine) :
    wpAny (model prog w) A (collect (.ref l)) Q E s := by
  obtain ⟨o, ho, hc, n, hd⟩ := id hl
  unfold collect
  refine wpAny_bind (wpAny_runValue (codeAny_builtin entry_proto_collect' ?_))
  show wpAny _ _ (do again (.builtin "list.__iadd__" ⟨[← newList [], .ref l], []⟩)) _ _ s
  refine wpAny_bind (wpAny_newList (wpAny_pure ⟨Code.quiet_builtin _ (by decide +kernel), codeAny_builtin entry_list_iadd' ?_⟩))
  show wpAny _ _ (Builtin.List.listExtendWith (.ref s.heap.objs.size) (.ref l) (.ref s.heap.objs.size)) _ _ { s with heap := s.heap.push (seqObj "list" #[] 0) }
  unfold Builtin.List.listExtendWith
  have ho' : (s.heap.push (seqObj "list" #[] 0)).get? l = some o := Heap.get?_push_of_some _ ho
  refine wpAny_bind (wpAny_typeOf (T := "tuple") ⟨o, ho', hc⟩ ?_)
  have ht : (Value.type "tuple" == Value.type "tuple") = true := by rfl
  rw [if_pos (by rw [ht]; simp)]
  refine wpAny_bind (listItems_at ho' hd ?_)
  refine wpAny_bind (listItems_at (xs := #[]) (n := 0) (Heap.get?_push_size _ rfl) rfl ?_)
  rw [if_neg (by simp)]
  refine wpAny_bind (listUpdate_at (xs := #[]) (n := 0) (Heap.get?_push_size _ rfl) rfl ?_ (Nat.zero_le _) (by show (#[] ++ vs.toArray).size ≤ sizeLine + 1; simp only [Array.size_append, List.size_toArray, List.length_nil]; omega))
  refine wpAny_pure ?_
  show wpAny (model prog w) A (do
      let o ← load s.heap.objs.size
      match o.data with
      | .seq xs _ => pure xs.toList
      | _ => unsupported "internal:collect") Q E { s with heap := (s.heap.push (seqObj "list" #[] 0)).update s.heap.objs.size (Obj.mapSeq (· ++ vs.toArray)) }
  refine wpAny_bind (wpAny_load (get?_update_seq (Heap.get?_push_size _ rfl) _) ?_)
  show wpAny _ _ (pure ((#[] : Array Value) ++ vs.toArray).toList) Q E _
  rw [show ((#[] : Array Value) ++ vs.toArray).toList = vs by simp]
  exact wpAny_pure h
open SrtO in
theorem sorted_ordT {l : Addr} {vs : List Value} {ltv : Value → Value → Bool} {Q : Value → Shared → Prop} (O : Swo ltv) (hl : IsTup s.heap l vs.toArray) (hz : vs.length ≤ sizeLine)
    (hS : 2 ≤ vs.length → ∀ (h₁ : Heap) (a : Addr), h₁.get? a = some (seqObj "list" vs.toArray 0) → (∀ b o, s.heap.get? b = some o → b ≠ a ∧ h₁.get? b = some o) → SortableO prog w A.in1.in1 { s with heap := h₁ } a vs ltv)
    (h : ∀ out : List Value, Srtd ltv out → Stb ltv out vs → Q (.ref (s.heap.objs.size + 1)) { s with heap := sortedAll s.heap vs out.toArray }) :
    wpAny (model prog w) A (call (.builtin "sorted") [.ref l]) Q E s := by
  refine Calls.call_function_entry kind_sorted plain_sorted entry_sorted (args_sorted1 _) ?_
  unfold Builtin.«sorted»
  refine wpAny_bind (m := checkCount "sorted" 1 1 _) (wpAny_pure ?_)
  refine wpAny_bind (collect_tup hl ?_ hz)
  refine wpAny_bind (wpAny_newList ?_ hz)
  have hsz : ((s.heap.push (seqObj "list" #[] 0)).update s.heap.objs.size (Obj.mapSeq (· ++ vs.toArray))).objs.size = s.heap.objs.size + 1 := by
    rw [Heap.size_update, size_push']
  have hoL : (((s.heap.push (seqObj "list" #[] 0)).update s.heap.objs.size (Obj.mapSeq (· ++ vs.toArray))).push (seqObj "list" vs.toArray 0)).get? (s.heap.objs.size + 1) = some (seqObj "list" vs.toArray 0) := by
    rw [← hsz]; exact Heap.get?_push_size _ rfl
  have keep : ∀ b o, s.heap.get? b = some o → b ≠ s.heap.objs.size + 1 ∧ (((s.heap.push (seqObj "list" #[] 0)).update s.heap.objs.size (Obj.mapSeq (· ++ vs.toArray))).push (seqObj "list" vs.toArray 0)).get? b = some o := fun b o q => by
    have hlt : b < s.heap.objs.size := Heap.lt_size q
    refine ⟨Nat.ne_of_lt (Nat.lt_succ_of_lt hlt), Heap.get?_push_of_some _ ?_⟩
    rw [Heap.get?_update_ne _ _ _ _ (Nat.ne_of_lt hlt)]
    exact Heap.get?_push_of_some _ q
  show wpAny _ _ _ _ _ { s with heap := ((s.heap.push (seqObj "list" #[] 0)).update s.heap.objs.size (Obj.mapSeq (· ++ vs.toArray))).push (seqObj "list" vs.toArray 0) }
  rw [hsz]
  refine wpAny_bind (wpAny_holding (wpAny_call_entry slot_list_sort ⟨_, hoL, rfl⟩ entry_list_sort (list_sort_ord O hoL hz (fun h2 => hS h2 _ _ hoL keep) fun out hs hb => ⟨_, rfl, ?_⟩) (args_list_sort _)))
  exact wpAny_pure ⟨_, rfl, h out hs hb⟩
end
/-- sorted(xs), ints of a tuple -/
def rSortedIT (K : PySem.W.Frag) : List V → Hp → VK → Prop := fun vs H Q => ∃ (a : Addr) (ns : List Int), vs = [V.ref a] ∧ SqT K H a (ns.map V.int) ∧
  ∀ (ns' : List Int) (p : Addr), ns'.Perm ns → ns'.Pairwise (· ≤ ·) → H p = none → Q (.ref p) (upd H p (.lst (ns'.map V.int)))
theorem cr_sortedIT {X : Cx} : CallR X (.builtin "sorted") (rSortedIT X.K) := by
  intro pins s σ H vs us Q I r h
  obtain ⟨a, ns, rfl, hs, q⟩ := h
  obtain ⟨its, rv, hl, hz⟩ := I.tuple hs
  rw [Vals.ref1 r]
  have hi := rv.ints
  refine sorted_ordT SrtO.swo_int hl (by rw [← rv.length]; exact hz) (fun h2 h₁ a' _ _ => SrtO.ints_sortable hi h2) fun out h1 h2 => ?_
  obtain ⟨k1, k2, k3⟩ := SrtO.ints_out hi h1 h2
  obtain ⟨ep, he'⟩ := PyProof.Rows.sortedAll_at s.heap its out.toArray
  have hlen : ((out.map SrtO.iv).map V.int).length ≤ sizeLine := by
    rw [List.length_map, k2.length_eq]
    rw [List.length_map] at hz
    exact hz
  exact ⟨.ref _, upd H (s.heap.objs.size + 1) (.lst ((out.map SrtO.iv).map V.int)), I.laid (t' := s.toks) (fun _ _ => PyProof.Rows.sortedAll_old) (Nat.le_succ _) ⟨hlen, out, ep, vals_of_ints k1, he'⟩, rfl, q _ _ k2 k3 (I.hok.fresh (Nat.le_succ _))⟩
/-! ### built-ins of one more kind -/
section
variable {S : Type}
def eOp (op : List D → M S Rv) (es : TEs S) : TEv S := fun Γ => (es Γ).bind fun p => (M.opt (valOs p.2 p.1)).bind fun xs => (op xs).bind fun r => .pure (r, p.2)
def opSorted : List D → M S Rv
  | [.tup ds] => (M.opt (intsOf ds)).bind fun ns => (M.some fun ns' : List Int => ns'.Perm ns ∧ ns'.Pairwise (· ≤ ·)).bind fun ns' => .pure (.own (.lst (ns'.map D.int)))
  | [.lst ds] => (M.opt (intsOf ds)).bind fun ns => (M.some fun ns' : List Int => ns'.Perm ns ∧ ns'.Pairwise (· ≤ ·)).bind fun ns' => .pure (.own (.lst (ns'.map D.int)))
  | _ => .fail
variable {X : Cx} {T : Nat → Option Addr} {W : Wd S} {ea : Expr} {es : List Expr} {ms : TEs S} {pos : Pos} {K : PySem.W.Frag} {P G G' H : Hp} {Γ : List Sl} {s : S} {σ : L2.St} {Q : VK}
/-- op is what the rule r asks for -/
def OpOk (K : PySem.W.Frag) (T : Nat → Option Addr) (W : Wd S) (op : List D → M S Rv) (r : List V → Hp → VK → Prop) : Prop := ∀ (P G H : Hp) (Γ : List Sl) (s : S) (σ : L2.St) (Q : VK) (xs : List D) (vs : List V) (E0 : Xn → S → Prop) (Qr : Rv → S → Prop), Fr K T W P G Γ s σ H → argsOk K T G H vs xs → (op xs).run s Qr E0 → (∀ r, Qr r s → Kont K T W P G Γ s σ Q r) → r vs H Q
theorem de_opF {op : List D → M S Rv} {r : List V → Hp → VK → Prop} {x : Str} {p : Pos} {id : String} (ok : OpOk X.K T W op r) (hr : CallR X (.builtin id) r) (hg : Gl X x) (hm : X.mg x = none) (hv : bootBuiltins x = some (.builtin id)) (ha : DA X T W (ea :: es) ms) (hn : x ≠ "__name__" := by decide) (hdb : (x == ("__debug__" : Str)) = false := by decide)
    (he : starEach (ea :: es) X.env = (false, eval ea X.env) :: starEach es X.env := by rfl) (hpl : (backTo pos (starEach es X.env)).any (·.1) = false := by rfl) : DE X T W (.Call (.Name x p) (ea :: es) [] pos) (eOp op ms) :=
  (pe_callB hr hg hm hv ha hn hdb he hpl).weaken fun σ H Q ⟨P, G, Γ, s, F, h⟩ => by
    refine xA.by F (M.weak h fun p s1 h vs G1 H1 u1 F1 o1 => ?_)
    obtain ⟨xs, e, h⟩ := opt_run h
    exact ok _ _ _ _ _ _ _ _ _ _ _ F1 (OPs.vals F1 o1 e) h fun r hr => kont u1 hr
theorem DRs.intsOf : ∀ {xs : List V} {ds : List D} {ns : List Int}, DRs K T G xs ds → Ev.intsOf ds = some ns → xs = ns.map V.int
  | _, _, _, .nil, e => by cases e; rfl
  | v :: vs, d :: ds, ns, .cons h r, e => by
    cases d with
    | int b =>
      unfold Ev.intsOf at e
      cases q : Ev.intsOf ds with
      | none => rw [q] at e; cases e
      | some bs' =>
        rw [q] at e
        cases e
        cases h
        rw [DRs.intsOf r q]; rfl
    | _ => cases e
theorem DRs.ofInts (G : Hp) : ∀ ns : List Int, DRs K T G (ns.map V.int) (ns.map D.int)
  | [] => .nil
  | n :: r => .cons (.int n) (DRs.ofInts G r)
theorem sorted_ok : OpOk K T W (opSorted (S := S)) (fun vs H Q => rSortedI K vs H Q ∨ rSortedIT K vs H Q) := fun P G H Γ s σ Q xs vs E0 Qr F hx h hq => by
  have sub := F.wf.gh
  match xs, h with
  | [.tup ds], h =>
    obtain ⟨v, rfl, hv⟩ := hx.one
    obtain ⟨a, ys, rfl, ha, r⟩ := hv.tup sub
    obtain ⟨ns, e, h⟩ := opt_run h
    rw [r.intsOf e] at ha
    refine .inr ⟨a, ns, rfl, ha.sq, fun ns' p h1 h2 n => ?_⟩
    exact (hq _ (h ns' ⟨h1, h2⟩)).newL F (DRs.ofInts _ _) p n
  | [.lst ds], h =>
    obtain ⟨v, rfl, hv⟩ := hx.one
    obtain ⟨a, ys, rfl, ha, r⟩ := hv.lst sub
    obtain ⟨ns, e, h⟩ := opt_run h
    rw [r.intsOf e] at ha
    refine .inl ⟨a, ns, rfl, SqL.of ha, fun ns' p h1 h2 n => ?_⟩
    exact (hq _ (h ns' ⟨h1, h2⟩)).newL F (DRs.ofInts _ _) p n
theorem de_sorted {x : Str} {p : Pos} (hg : Gl X x) (hm : X.mg x = none) (hv : bootBuiltins x = some (.builtin "sorted")) (ha : DA X T W (ea :: es) ms) (hn : x ≠ "__name__" := by decide) (hdb : (x == ("__debug__" : Str)) = false := by decide)
    (he : starEach (ea :: es) X.env = (false, eval ea X.env) :: starEach es X.env := by rfl) (hpl : (backTo pos (starEach es X.env)).any (·.1) = false := by rfl) : DE X T W (.Call (.Name x p) (ea :: es) [] pos) (eOp opSorted ms) :=
  de_opF sorted_ok (cr_sortedI.or cr_sortedIT) hg hm hv ha hn hdb he hpl
end
/-! ### f(e, .., k = v, ..) -/
section
variable {S : Type} {X : Cx} {T : Nat → Option Addr} {W : Wd S} {ea : Expr} {es : List Expr} {ms ks : TEs S} {x : Str} {p pos : Pos} {n : Nat} {F : List D → M S D} {kws : List Keyword}
theorem de_callM {kn : List Str} {pm : List Nat} {np nk : Nat} (hgd : X.A.guards = some []) (c : CalleeK X T W x n F kn np pm) (hg : Gl X x) (ha0 : DA X T W (ea :: es) ms) (ha : DK X T W kws ks) (hlen : kn.length = nk)
    (hn1 : ∀ (Γ : List Sl) (s : S) (Q : List Rv × List Sl → S → Prop), (ms Γ).run s Q noX → (ms Γ).run s (fun p s' => Q p s' ∧ p.1.length = np) noX) (hn : ∀ (Γ : List Sl) (s : S) (Q : List Rv × List Sl → S → Prop), (ks Γ).run s Q noX → (ks Γ).run s (fun p s' => Q p s' ∧ p.1.length = nk) noX)
    (hpm : (pm.all fun i => decide (i < np + nk)) = true := by rfl) (hpn : pm.length = n := by rfl) (hdb : (x == ("__debug__" : Str)) = false := by decide) (hall : (backToKw pos (keywordEach kws X.env)).all (·.1.isSome) = true := by rfl) (hks : (backToKw pos (keywordEach kws X.env)).filterMap (·.1) = kn := by rfl)
    (he : starEach (ea :: es) X.env = (false, eval ea X.env) :: starEach es X.env := by rfl)
    (hpl : ((backTo pos (starEach (ea :: es) X.env)).any (·.1) || (backToKw pos (keywordEach kws X.env)).any (·.1.isNone)) = false := by rfl) : DE X T W (.Call (.Name x p) (ea :: es) kws pos) (eCallK F np nk pm ms ks) := by
  subst hlen
  obtain ⟨k, f, fd, ps, Fo, hr, hm, hk, hb⟩ := c.ex
  exact PE.weaken (pe_callGK (E := fun _ _ _ => False) Fo hr hgd hg hm hk hb passes0 ha0 ha hall hks hdb fun I h => by
    subst hks
    exact PySem.W.callWith_KW (h₀ := X.base) I.ok.mod.kin hk hall h hpl he) (le_callK hn1 hn hpm hpn)
theorem knownM_of {prog : Program} {w : World} {K : PySem.W.Frag} {mg : Str → Option Value} {base : Heap} {k : Nat} {params : Arguments} {body : List Stmt} {scope : Scope} {kws : List (Str × V)} {a : Addr} {fd : FuncData} {ps : List Str} {n np : Nat} {f : List D → M S D} {kn : List Str} {pm : List Nat} (h : FnG prog w K mg base CX0 k a fd ps (spF K T W n f)) (F : FunD K x x params body scope [] kws a fd) (hm : mg x = some (.ref a))
    (hb : ∀ (kV doc pm0 : Value) (an : Option Addr) (cdv ct : Value) (us ws : List Value), us.length = np → ws.length = kn.length → bindArgs (PySem.W.fnOf x x params body scope .none kV doc pm0 an cdv ct) ⟨us, kn.zip ws⟩ = pure (ps.zip (pm.filterMap fun i => (us ++ ws)[i]?))) (hne : ps.length ≠ 0) : KnownK prog w K mg base T W k x n f kn np pm := by
  refine ⟨a, fd, ps, h, hm, F.kp, ⟨fun s us ws _ hl => ?_, fun r rz => Vals.perm r rz⟩⟩
  unfold permL at hl ⊢
  split at hl
  · rename_i hc
    obtain ⟨h1, h2⟩ := hc
    rw [if_pos ⟨h1, h2⟩]
    obtain ⟨oc, od, dV, kV, doc, pm0, an, cdv, ct, osl, rfl, lk, hcd, hD, hK⟩ := F.ex
    rcases hD with ⟨_, rfl⟩ | ⟨e, _⟩
    · exact .of_eq (hb kV doc pm0 an cdv ct us ws h1 h2)
    · exact absurd rfl e
  · exact absurd hl.symm hne
end
end Ev
/-! from E22.lean -/
set_option maxRecDepth 100000
set_option maxHeartbeats 4000000
/-! Ev, part 22: enumerate of a tuple or a list: its turns make new tuples. -/
namespace Ev
open PySem PySem.Spec PyProof.Rows L2
theorem meets_enumerate_new0 {v : Value} {o : Obj} {H : Heap → Prop} (B : Begins v o H) :
    Meets (Builtin.«enumerate.__new__» ⟨[.type "enumerate", v], []⟩) (fun _ R s => H s.heap ∧
      R (.ok (.ret (.ref (s.heap.push o).objs.size))) { s with heap := (s.heap.push o).push { cls := .type "enumerate", data := .fields #[.none, .bool false, .ref s.heap.objs.size, rawInt 0, .none, .none] } }) :=
  .of_wp fun prog w A R s h => by
    obtain ⟨hp, g, d, tk, os⟩ := s; obtain ⟨h1, h⟩ := h
    have hsub := sub_enumerate
    have q1 : ∀ {A' : Around} {E : Value → Shared → Prop} {Q : Value → Shared → Prop}, Q (.ref hp.objs.size) ⟨hp.push o, g, d, tk, os⟩ → wpAny (model prog w) A' (pyIter v) Q E ⟨hp, g, d, tk, os⟩ :=
      fun q => B.iter prog w _ _ ⟨hp, g, d, tk, os⟩ _ h1 q
    wp_walk using q1
    refine wpAny_stack_any fun st => wpAny_pure ?_
    split
    · rename_i c _ _ _ _ _
      cases (c == Value.type "enumerate")
      · wp_walk using q1
        exact ⟨_, rfl, h⟩
      · wp_walk using q1
        exact ⟨_, rfl, h⟩
    · wp_walk using q1
      exact ⟨_, rfl, h⟩
section
variable {prog : Program} {w : World} {A : Around} {E : Value → Shared → Prop} {s : Shared}
theorem enum_begins0 {v : Value} {o : Obj} {H : Heap → Prop} {Q : Value → Shared → Prop} (B : Begins v o H) (h1 : H s.heap)
    (h : ∀ h', IsEnum h' (s.heap.objs.size + 1) s.heap.objs.size 0 .none → h'.get? s.heap.objs.size = some o → h'.objs.size = s.heap.objs.size + 2 →
      (∀ b o, s.heap.get? b = some o → h'.get? b = some o) → Q (.ref (s.heap.objs.size + 1)) { s with heap := h' }) :
    wpAny (model prog w) A (call (.type "enumerate") [v]) Q E s := by
  refine callType_new F.called_enumerate (by decide) (F.typeCall_enumerate_1 _) (F.newCall_enumerate_1 _) (fun obj => F.args_object_init_2 obj _) F.entry_enumerate_new
    (meets_enumerate_new0 B) ⟨h1, ?_⟩
  have hz : (s.heap.push o).objs.size = s.heap.objs.size + 1 := Heap.size_push ..
  show _ ∧ _
  rw [hz]
  have he : IsEnum ((s.heap.push o).push { cls := .type "enumerate", data := .fields #[.none, .bool false, .ref s.heap.objs.size, rawInt 0, .none, .none] }) (s.heap.objs.size + 1) s.heap.objs.size 0 .none := by
    have := Heap.get?_push_size (s.heap.push o) (o := { cls := .type "enumerate", data := .fields #[.none, .bool false, .ref s.heap.objs.size, rawInt 0, .none, .none] }) rfl
    rw [hz] at this; exact this
  refine ⟨⟨_, he, rfl⟩, h _ he (Heap.get?_push_of_some _ (Heap.get?_push_size _ B.free)) (by rw [Heap.size_push, hz]) fun b o x => Heap.get?_push_of_some _ (Heap.get?_push_of_some _ x)⟩
end
/-- the list or tuple at a -/
def SqA (K : PySem.W.Frag) (H : Hp) (a : Addr) (xs : List V) : Prop := SqL K H a xs ∨ SqT K H a xs
/-- each item in a new pair -/
def Ien (K : PySem.W.Frag) (a : Addr) (isT : Bool) : It :=
  ⟨fun i H => ∃ (xs : List V) (x : V), (if isT then SqT K H a xs else SqL K H a xs) ∧ xs[i]? = some x,
   fun i H v H' => ∃ (T : Addr) (ob : Obj) (x : V), v = .ref T ∧ H T = none ∧ ob.dict = none ∧ H' = upd H T (.frz ob (.tup [.int (i : Nat), x])) ∧ ∀ xs, (if isT then SqT K H a xs else SqL K H a xs) → xs[i]? = some x,
   fun i H => ∃ xs : List V, (if isT then SqT K H a xs else SqL K H a xs) ∧ xs.length = i⟩
theorem Ien.inj {X : Cx} {pins : List (Addr × Obj)} {σ : L2.St} {H : Hp} {s : Shared} (I : Inv X pins σ H s) {a : Addr} {xs ys : List V} (h1 : SqT X.K H a xs) (h2 : SqT X.K H a ys) : xs = ys := I.tuple_inj h1 h2
theorem turn_en {P : Program} {w : World} {K : PySem.W.Frag} {elts : List Expr} {kk : Nat} {tpos : Pos} (a e it : Addr) :
    Turn P w K (.Tuple elts kk tpos) (Ien K a true) [e, it] e (fun i h => (∃ old, IsEnum h e it ((i : Nat) : Int) old) ∧ h.IsTupleIter it a i ∧ e ≠ it) where
  mem := by simp
  obj := fun i h st b hb => by
    obtain ⟨⟨old, he⟩, ⟨o, ho, hc, hd⟩, _⟩ := st
    have e' : b = e ∨ b = it := by simpa using hb
    rcases e' with z | z
    · rw [z]; exact ⟨_, he, fun v q => nomatch q⟩
    · rw [z]; exact ⟨o, ho, fun v q => by rw [hd] at q; cases q⟩
  keep := fun i h h' st k => let ⟨⟨old, he⟩, hi, hne⟩ := st; ⟨⟨old, k e (by simp) _ he⟩, hi.at fun o q => k it (by simp) o q, hne⟩
  item := by
    intro X hP hw hK hc i pins s σ H E I hf st hg
    subst hP hw hK
    obtain ⟨⟨old, he⟩, hit, hne⟩ := st
    obtain ⟨xs, x, hq, hx⟩ := hg
    have hq : SqT X.K H a xs := hq
    obtain ⟨its, rv, p, hz⟩ := I.tuple hq
    obtain ⟨u, hu, ru⟩ := rv.get hx
    have hel : e < s.heap.objs.size := Heap.lt_size he
    have hil : it < s.heap.objs.size := by obtain ⟨_, q, _⟩ := hit; exact Heap.lt_size q
    have hta : a ≠ it := fun z => by
      obtain ⟨o, ho, hc1, _⟩ := p
      obtain ⟨o2, ho2, hc2, _⟩ := hit
      rw [z] at ho
      rw [ho] at ho2; cases ho2
      rw [hc1] at hc2; exact absurd (Value.type.inj hc2) (by decide)
    have hea : e ∉ [it, a] := fun z => by
      rcases List.mem_cons.mp z with z | z
      · exact hne z
      · have z := List.mem_singleton.mp z
        obtain ⟨o, ho, hc1, _⟩ := p
        rw [← z, he] at ho; cases ho
        exact absurd (Value.type.inj hc1) (by decide)
    have hi : i < its.toArray.size := by
      rw [List.size_toArray]
      exact (List.getElem?_eq_some_iff.mp hu).1
    refine wpAny_pyNext_enum_itemC (Draws.tuple (A := X.A.in1) (I.ok.hd hc) it a hta its.toArray) he (show s.heap.IsTupleIter it a i ∧ s.heap.IsTuple a its.toArray from ⟨hit, p⟩) hi hne hea fun y h' tk hP ho hst hT hsz hk => ?_
    have hy : y = u := by
      have : its.toArray[i]? = some y := hP
      rw [List.getElem?_toArray, hu] at this
      exact (Option.some.inj this).symm
    subst hy
    refine ⟨_, rfl, wpAny_letOwnedTupleGo_enum (s := { s with heap := h', toks := tk + 1 }) ho fun h'' he' sb => ?_⟩
    have hT2 : h''.get? s.heap.objs.size = some { cls := .type "tuple", data := .seq #[.int i tk, y] } := (sb.2 _ (Nat.ne_of_gt hel)).trans hT
    have new : ObjOk X.prog X.w (upd H s.heap.objs.size (.frz { cls := .type "tuple", data := .seq #[.int i tk, y] } (.tup [.int (i : Nat), x]))) h'' s.heap.objs.size (.frz { cls := .type "tuple", data := .seq #[.int i tk, y] } (.tup [.int (i : Nat), x])) :=
      ⟨hT2, by show 2 ≤ sizeLine; decide, [.int i tk, y], .cons ⟨_, rfl⟩ (.cons ru .nil), ⟨_, hT2, rfl, _, rfl⟩⟩
    have I1 : Inv X pins σ (upd H s.heap.objs.size (.frz { cls := .type "tuple", data := .seq #[.int i tk, y] } (.tup [.int (i : Nat), x]))) { s with heap := h'', toks := tk + 1 } :=
      I.turnedNew (ch := [e, it]) (fun b ob hb q => (sb.2 b (fun z => hb (by simp [z]))).trans (hk b ob (fun z => hb (by simp [z])) (fun z => hb (by simp [z])) q)) hf (Nat.le_refl _) new
    refine ⟨.ref s.heap.objs.size, _, I1, rfl, ⟨_, _, x, rfl, I.hok.fresh (Nat.le_refl _), rfl, rfl, fun ys hy => by rw [Ien.inj I hy hq]; exact hx⟩, ⟨⟨y, ?_⟩, hst.1.at fun o q => (sb.2 it (Ne.symm hne)).trans q, hne⟩, fun b hb => ?_⟩
    · have e1 : ((i + 1 : Nat) : Int) = (i : Int) + 1 := by omega
      rw [e1]; exact he'
    · have hb' : b < s.heap.objs.size := by
        have e' : b = e ∨ b = it := by simpa using hb
        rcases e' with z | z
        · rw [z]; exact hel
        · rw [z]; exact hil
      rw [upd_ne (Nat.ne_of_lt hb')]
      exact (hf b hb).1
  done := by
    intro X hP hw hK hc i pins s σ H E I hf st hg
    subst hP hw hK
    obtain ⟨⟨old, he⟩, hit, hne⟩ := st
    obtain ⟨xs, hq, hx⟩ := hg
    have hq : SqT X.K H a xs := hq
    obtain ⟨its, rv, p, hz⟩ := I.tuple hq
    obtain ⟨f0, f1, f2, f3, f4, f5⟩ := hf it (by simp)
    have hl := rv.length
    have hta : a ≠ it := fun z => by
      obtain ⟨o, ho, hc1, _⟩ := p
      obtain ⟨o2, ho2, hc2, _⟩ := hit
      rw [z] at ho
      rw [ho] at ho2; cases ho2
      rw [hc1] at hc2; exact absurd (Value.type.inj hc2) (by decide)
    have ei : its.toArray.size = i := by
      rw [List.size_toArray, ← hl]; exact hx
    subst ei
    exact wpAny_pyNext_enum_endD (Draws.tuple (A := X.A.in1) (I.ok.hd hc) it a hta its.toArray) he (show s.heap.IsTupleIter it a its.toArray.size ∧ s.heap.IsTuple a its.toArray from ⟨hit, p⟩) fun h' eb => ⟨rfl, I.turned (t' := s.toks) (fun b o hb q => eb b o hb q) f0 f1 f3 f4 f5⟩
  self := fun A i s Q E st h => let ⟨⟨_, he⟩, _⟩ := st; wpAny_pyIter_enum he h
theorem turn_enL {P : Program} {w : World} {K : PySem.W.Frag} {elts : List Expr} {kk : Nat} {tpos : Pos} (a e it : Addr) :
    Turn P w K (.Tuple elts kk tpos) (Ien K a false) [e, it] e (fun i h => (∃ old, IsEnum h e it ((i : Nat) : Int) old) ∧ h.IsListIter it a i ∧ e ≠ it) where
  mem := by simp
  obj := fun i h st b hb => by
    obtain ⟨⟨old, he⟩, ⟨o, ho, hc, hd⟩, _⟩ := st
    have e' : b = e ∨ b = it := by simpa using hb
    rcases e' with z | z
    · rw [z]; exact ⟨_, he, fun v q => nomatch q⟩
    · rw [z]; exact ⟨o, ho, fun v q => by rw [hd] at q; cases q⟩
  keep := fun i h h' st k => let ⟨⟨old, he⟩, hi, hne⟩ := st; ⟨⟨old, k e (by simp) _ he⟩, hi.at fun o q => k it (by simp) o q, hne⟩
  item := by
    intro X hP hw hK hc i pins s σ H E I hf st hg
    subst hP hw hK
    obtain ⟨⟨old, he⟩, hit, hne⟩ := st
    obtain ⟨xs, x, hq, hx⟩ := hg
    have hq : SqL X.K H a xs := hq
    obtain ⟨its, rv, p, hz⟩ := I.list hq
    obtain ⟨u, hu, ru⟩ := rv.get hx
    have hel : e < s.heap.objs.size := Heap.lt_size he
    have hil : it < s.heap.objs.size := by obtain ⟨_, q, _⟩ := hit; exact Heap.lt_size q
    have hta : a ≠ it := fun z => by
      obtain ⟨o, ho, hc1, _⟩ := p.isList
      obtain ⟨o2, ho2, hc2, _⟩ := hit
      rw [z] at ho
      rw [ho] at ho2; cases ho2
      rw [hc1] at hc2; exact absurd (Value.type.inj hc2) (by decide)
    have hea : e ∉ [it, a] := fun z => by
      rcases List.mem_cons.mp z with z | z
      · exact hne z
      · have z := List.mem_singleton.mp z
        obtain ⟨o, ho, hc1, _⟩ := p.isList
        rw [← z, he] at ho; cases ho
        exact absurd (Value.type.inj hc1) (by decide)
    have hi : i < its.toArray.size := by
      rw [List.size_toArray]
      exact (List.getElem?_eq_some_iff.mp hu).1
    refine wpAny_pyNext_enum_itemC (Draws.list (A := X.A.in1) (I.ok.hd hc) it a hta its.toArray) he (show s.heap.IsListIter it a i ∧ s.heap.IsList a its.toArray from ⟨hit, p.isList⟩) hi hne hea fun y h' tk hP ho hst hT hsz hk => ?_
    have hy : y = u := by
      have : its.toArray[i]? = some y := hP
      rw [List.getElem?_toArray, hu] at this
      exact (Option.some.inj this).symm
    subst hy
    refine ⟨_, rfl, wpAny_letOwnedTupleGo_enum (s := { s with heap := h', toks := tk + 1 }) ho fun h'' he' sb => ?_⟩
    have hT2 : h''.get? s.heap.objs.size = some { cls := .type "tuple", data := .seq #[.int i tk, y] } := (sb.2 _ (Nat.ne_of_gt hel)).trans hT
    have new : ObjOk X.prog X.w (upd H s.heap.objs.size (.frz { cls := .type "tuple", data := .seq #[.int i tk, y] } (.tup [.int (i : Nat), x]))) h'' s.heap.objs.size (.frz { cls := .type "tuple", data := .seq #[.int i tk, y] } (.tup [.int (i : Nat), x])) :=
      ⟨hT2, by show 2 ≤ sizeLine; decide, [.int i tk, y], .cons ⟨_, rfl⟩ (.cons ru .nil), ⟨_, hT2, rfl, _, rfl⟩⟩
    have I1 : Inv X pins σ (upd H s.heap.objs.size (.frz { cls := .type "tuple", data := .seq #[.int i tk, y] } (.tup [.int (i : Nat), x]))) { s with heap := h'', toks := tk + 1 } :=
      I.turnedNew (ch := [e, it]) (fun b ob hb q => (sb.2 b (fun z => hb (by simp [z]))).trans (hk b ob (fun z => hb (by simp [z])) (fun z => hb (by simp [z])) q)) hf (Nat.le_refl _) new
    refine ⟨.ref s.heap.objs.size, _, I1, rfl, ⟨_, _, x, rfl, I.hok.fresh (Nat.le_refl _), rfl, rfl, fun ys hy => by rw [I.list_inj hy hq]; exact hx⟩, ⟨⟨y, ?_⟩, hst.1.at fun o q => (sb.2 it (Ne.symm hne)).trans q, hne⟩, fun b hb => ?_⟩
    · have e1 : ((i + 1 : Nat) : Int) = (i : Int) + 1 := by omega
      rw [e1]; exact he'
    · have hb' : b < s.heap.objs.size := by
        have e' : b = e ∨ b = it := by simpa using hb
        rcases e' with z | z
        · rw [z]; exact hel
        · rw [z]; exact hil
      rw [upd_ne (Nat.ne_of_lt hb')]
      exact (hf b hb).1
  done := by
    intro X hP hw hK hc i pins s σ H E I hf st hg
    subst hP hw hK
    obtain ⟨⟨old, he⟩, hit, hne⟩ := st
    obtain ⟨xs, hq, hx⟩ := hg
    have hq : SqL X.K H a xs := hq
    obtain ⟨its, rv, p, hz⟩ := I.list hq
    obtain ⟨f0, f1, f2, f3, f4, f5⟩ := hf it (by simp)
    have hl := rv.length
    have hta : a ≠ it := fun z => by
      obtain ⟨o, ho, hc1, _⟩ := p.isList
      obtain ⟨o2, ho2, hc2, _⟩ := hit
      rw [z] at ho
      rw [ho] at ho2; cases ho2
      rw [hc1] at hc2; exact absurd (Value.type.inj hc2) (by decide)
    have ei : its.toArray.size = i := by
      rw [List.size_toArray, ← hl]; exact hx
    subst ei
    exact wpAny_pyNext_enum_endD (Draws.list (A := X.A.in1) (I.ok.hd hc) it a hta its.toArray) he (show s.heap.IsListIter it a its.toArray.size ∧ s.heap.IsList a its.toArray from ⟨hit, p.isList⟩) fun h' eb => ⟨rfl, I.turned (t' := s.toks) (fun b o hb q => eb b o hb q) f0 f1 f3 f4 f5⟩
  self := fun A i s Q E st h => let ⟨⟨_, he⟩, _⟩ := st; wpAny_pyIter_enum he h
def iEn (K : PySem.W.Frag) (ta : TA) : TI := fun σ H R => ta σ H fun vs H1 => ∃ a xs, vs = [.ref a] ∧ ((SqL K H1 a xs ∧ R (Ien K a false) H1) ∨ (SqT K H1 a xs ∧ R (Ien K a true) H1))
theorem pi_en {X : Cx} {e : Expr} {ta : TA} {p pos tpos : Pos} {elts : List Expr} {kk : Nat} (hg : Gl X "enumerate") (hm : X.mg "enumerate" = none) (ha : PA X [e] ta) (hs : starEach [e] X.env = [(false, eval e X.env)] := by rfl) :
    PI X (.Tuple elts kk tpos) (.Call (.Name "enumerate" p) [e] [] pos) (iEn X.K ta) := by
  refine ⟨fun pins s σ H R I h => ?_⟩
  refine Call_ (ld_blt I hg hm boot_enumerate (PyProof.Rows.callWith_type1 (thn (ha.run pos pins s σ H _ I h) fun us s1 ⟨vs, H1, I1, r1, q1⟩ => ?_) hs rfl))
  obtain ⟨a, xs, ex, hq⟩ := q1
  subst ex
  have fp : ∀ b ∈ [s1.heap.objs.size + 1, s1.heap.objs.size], FpOk X pins H1 b := fun b hb => by
    have e' : b = s1.heap.objs.size + 1 ∨ b = s1.heap.objs.size := by simpa using hb
    have hle : s1.heap.objs.size ≤ b := by
      rcases e' with z | z
      · rw [z]; exact Nat.le_add_right _ _
      · rw [z]; exact Nat.le_refl _
    exact I1.fpOk hle (I1.hok.fresh hle)
  cases r1 with
  | cons r rr =>
    cases rr
    cases r
    rcases hq with ⟨hq, q⟩ | ⟨hq, q⟩
    · obtain ⟨its, rv, p', hz⟩ := I1.list hq
      refine enum_begins0 (begins_list a its.toArray) p'.isList fun h' he hit hsz hk => wpAny_pyIter_enum he ?_
      have I2 : Inv X pins σ H1 { s1 with heap := h' } := I1.kept (t' := s1.toks) hk
      exact ⟨s1.heap.objs.size + 1, [s1.heap.objs.size + 1, s1.heap.objs.size], _, _, H1, rfl, I2, turn_enL a (s1.heap.objs.size + 1) s1.heap.objs.size, ⟨⟨.none, he⟩, ⟨_, hit, rfl, rfl⟩, Nat.succ_ne_self _⟩, fp, q⟩
    · obtain ⟨its, rv, p', hz⟩ := I1.tuple hq
      refine enum_begins0 (begins_tuple a its.toArray) p' fun h' he hit hsz hk => wpAny_pyIter_enum he ?_
      have I2 : Inv X pins σ H1 { s1 with heap := h' } := I1.kept (t' := s1.toks) hk
      exact ⟨s1.heap.objs.size + 1, [s1.heap.objs.size + 1, s1.heap.objs.size], _, _, H1, rfl, I2, turn_en a (s1.heap.objs.size + 1) s1.heap.objs.size, ⟨⟨.none, he⟩, ⟨_, hit, rfl, rfl⟩, Nat.succ_ne_self _⟩, fp, q⟩
end Ev
/-! from E23.lean -/
set_option maxRecDepth 100000
set_option maxHeartbeats 4000000
/-! Ev, part 23: loops and comprehensions whose turns make new tuples. -/
namespace Ev
open PySem PySem.Spec PyProof.Rows L2
/-- what a turn gives: data, or a new tuple of data -/
def Yl (K : PySem.W.Frag) (T : Nat → Option Addr) (G H H' : Hp) (x : V) (d : D) : Prop :=
  (H' = H ∧ DR K T G x d) ∨ ∃ (a : Addr) (ob : Obj) (xs : List V) (es : List D), x = .ref a ∧ H a = none ∧ ob.dict = none ∧ H' = upd H a (.frz ob (.tup xs)) ∧ d = .tup es ∧ DRs K T G xs es
def ItOkN (K : PySem.W.Frag) (T : Nat → Option Addr) (G : Hp) (J : It) (ds : List D) : Prop :=
  ∀ (i : Nat) (H G' : Hp), Sub G G' → Sub G' H → (∀ d, ds[i]? = some d → J.go i H ∧ ∀ x H', J.yld i H x H' → Yl K T G' H H' x d) ∧ (i = ds.length → J.stop i H)
section
variable {S : Type} {K : PySem.W.Frag} {T : Nat → Option Addr} {W : Wd S} {P G H H' : Hp} {Γ : List Sl} {s : S} {σ : L2.St}
theorem Fr.yield (F : Fr K T W P G Γ s σ H) {x : V} {d : D} (y : Yl K T G H H' x d) : ∃ G', Sub G G' ∧ Fr K T W P G' Γ s σ H' ∧ DR K T G' x d := by
  rcases y with ⟨rfl, dx⟩ | ⟨a, ob, xs, es, rfl, n, hd, rfl, rfl, r⟩
  · exact ⟨G, Sub.refl _, F, dx⟩
  · obtain ⟨F', n'⟩ := F.newG n (.frz ob (.tup xs))
    exact ⟨_, sub_upd n', F', .tup (.inl ⟨ob, upd_same, hd⟩) (r.mono (sub_upd n'))⟩
end
section
variable {S : Type} {X : Cx} {T : Nat → Option Addr} {W : Wd S} {ea : Expr} {a : TEv S} {m : TSv S} {pos : Pos}
variable (X T W) in
def xIN (w : TIv S) : TI := fun σ H R => ∃ P G Γ s, Fr X.K T W P G Γ s σ H ∧ (w Γ).run s (fun p s' => ∀ J G' H', Sub G G' → Fr X.K T W P G' p.2 s' σ H' → ItOkN X.K T G' J p.1 → R J H') noX
variable (X T W) in
abbrev DIN (tg e : Expr) (w : TIv S) : Prop := PI X tg e (xIN X T W w)
def seqOf : D → Option (List D)
  | .tup xs => some xs
  | .lst xs => some xs
  | _ => none
/-- each with its place -/
def enumD : Nat → List D → List D
  | _, [] => []
  | i, d :: ds => .tup [.int (i : Nat), d] :: enumD (i + 1) ds
theorem enumD_len : ∀ (k : Nat) (ds : List D), (enumD k ds).length = ds.length
  | _, [] => rfl
  | k, _ :: ds => congrArg (· + 1) (enumD_len (k + 1) ds)
theorem enumD_at : ∀ (k : Nat) (ds : List D) (i : Nat), (enumD k ds)[i]? = ds[i]?.map fun d => .tup [.int ((k + i : Nat) : Int), d]
  | _, [], _ => rfl
  | k, d :: ds, 0 => rfl
  | k, d :: ds, i + 1 => by
    show (enumD (k + 1) ds)[i]? = _
    rw [enumD_at (k + 1) ds i, show k + 1 + i = k + (i + 1) by omega]; rfl
def wEn (e : TEv S) : TIv S := fun Γ => (e Γ).bind fun p => (M.opt (frz p.2 (opd p.1))).bind fun q => (M.opt (seqOf q.1)).bind fun ds => .pure (enumD 0 ds, q.2)
theorem ItOkN.enL {K : PySem.W.Frag} {G : Hp} {l : Addr} {xs : List V} {ds : List D} (h : G l = some (.lst xs)) (r : DRs K T G xs ds) : ItOkN K T G (Ien K l false) (enumD 0 ds) := fun i H G' u u' => by
  have q : SqL K H l xs := SqL.of (u' _ _ (u _ _ h))
  refine ⟨fun d e => ?_, fun e => ⟨xs, q, by rw [r.length, e, enumD_len]⟩⟩
  rw [enumD_at] at e
  cases e' : ds[i]? with
  | none => rw [e'] at e; cases e
  | some d' =>
    rw [e'] at e; cases e
    obtain ⟨v, ev, dv⟩ := r.get e'
    refine ⟨⟨xs, v, q, ev⟩, fun x H' y => ?_⟩
    obtain ⟨a, ob, x', rfl, n, hd, rfl, hx⟩ := y
    have := hx xs q
    rw [ev] at this; cases this
    refine .inr ⟨a, ob, _, _, rfl, n, hd, rfl, rfl, .cons ?_ (.cons (dv.mono u) .nil)⟩
    rw [Nat.zero_add]; exact .int _
theorem ItOkN.enT {K : PySem.W.Frag} {G : Hp} {l : Addr} {xs : List V} {ds : List D} (h : TpT K G l xs) (r : DRs K T G xs ds) : ItOkN K T G (Ien K l true) (enumD 0 ds) := fun i H G' u u' => by
  have q : SqT K H l xs := (u'.tp (u.tp h)).sq
  refine ⟨fun d e => ?_, fun e => ⟨xs, q, by rw [r.length, e, enumD_len]⟩⟩
  rw [enumD_at] at e
  cases e' : ds[i]? with
  | none => rw [e'] at e; cases e
  | some d' =>
    rw [e'] at e; cases e
    obtain ⟨v, ev, dv⟩ := r.get e'
    refine ⟨⟨xs, v, q, ev⟩, fun x H' y => ?_⟩
    obtain ⟨a, ob, x', rfl, n, hd, rfl, hx⟩ := y
    have := hx xs q
    rw [ev] at this; cases this
    refine .inr ⟨a, ob, _, _, rfl, n, hd, rfl, rfl, .cons ?_ (.cons (dv.mono u) .nil)⟩
    rw [Nat.zero_add]; exact .int _
theorem di_en {elts : List Expr} {kk : Nat} {tpos p : Pos} (hg : Gl X "enumerate") (hm : X.mg "enumerate" = none) (ha : DE X T W ea a) (h1 : starEach [ea] X.env = (false, eval ea X.env) :: starEach [] X.env := by rfl) (hs : starEach [ea] X.env = [(false, eval ea X.env)] := by rfl) :
    DIN X T W (.Tuple elts kk tpos) (.Call (.Name "enumerate" p) [ea] [] pos) (wEn a) := (pi_en hg hm (pa_cons ha pa_nil h1) hs).weaken fun σ H R ⟨P, G, Γ, s, F, h⟩ => by
  refine xE.opd F (M.weak h fun p s1 h v G1 H1 u1 F1 o1 => ?_)
  obtain ⟨d, Γ', G2, u2, F2, dr, h⟩ := frz_run F1 o1 h
  obtain ⟨ds, e, h⟩ := opt_run h
  cases d with
  | tup ys =>
    cases e
    cases dr with
    | tup hq r => exact ⟨_, _, rfl, .inr ⟨(Sub.tp F2.wf.gh hq).sq, h _ G2 H1 (u1.trans u2) F2 (.enT hq r)⟩⟩
  | lst ys =>
    cases e
    cases dr with
    | lst hq r => exact ⟨_, _, rfl, .inl ⟨SqL.of (F2.wf.gh _ _ hq), h _ G2 H1 (u1.trans u2) F2 (.enL hq r)⟩⟩
  | _ => cases e
theorem ds_forN {tg eit : Expr} {g : IG} {w : TIv S} {body : List Stmt} (hp : PassesOwn (model X.prog X.w) X.A X.env X.xe) (hc : X.calm = true) (hi : DIN X T W tg eit w) (hg : DG X tg g) (hb : DSs X T W body m) (hs : ∀ x, foldedSetIterable eit X.env x = pure x := by intro _; rfl) :
    DS X T W (.For tg eit body [] pos) (cFor g w m) := (ps_for hp hc hi hg hb hs).weaken fun D0 σ H ⟨P, G, Γ, s, F, h⟩ => by
  refine ⟨P, G, Γ, s, F, M.weak h fun p s1 h J G1 H1 u1 F1 ok => ?_⟩
  obtain ⟨ds, Γp⟩ := p
  have h : (forLoop (fun d Γ1 => (M.opt (setG g d Γ1)).bind fun Γ2 => m Γ2) ds Γp).run s1 (fun f s => FlK X T W P G D0 s f) noX := h
  have F1 : Fr X.K T W P G1 Γp s1 σ H1 := F1
  have ok : ItOkN X.K T G1 J ds := ok
  refine ⟨fun i k σ H => k = ds.length - i ∧ i ≤ ds.length ∧ ∃ G' Γ' s', Sub G1 G' ∧ Fr X.K T W P G' Γ' s' σ H ∧ (forLoop (fun d Γ1 => (M.opt (setG g d Γ1)).bind fun Γ2 => m Γ2) (ds.drop i) Γ').run s' (fun f s => FlK X T W P G D0 s f) noX, ⟨ds.length, by simp, Nat.zero_le _, G1, Γp, s1, Sub.refl _, F1, h⟩, ?_⟩
  rintro i k σ2 H2 ⟨rfl, hi, G2, Γ2, s2, u2, F2, h⟩
  have okH := ok i H2 G2 u2 F2.wf.gh
  by_cases hlt : i < ds.length
  · right
    have e : ds[i]? = some ds[i] := by simp [hlt]
    obtain ⟨go, yl⟩ := okH.1 _ e
    rw [List.drop_eq_getElem_cons hlt] at h
    refine ⟨go, fun σ3 H3 => ∃ G' Γ' s', Sub G1 G' ∧ Fr X.K T W P G' Γ' s' σ3 H3 ∧ (forLoop (fun d Γ1 => (M.opt (setG g d Γ1)).bind fun Γ2 => m Γ2) (ds.drop (i + 1)) Γ').run s' (fun f s => FlK X T W P G D0 s f) noX, fun σ3 H3 q => ⟨ds.length - (i + 1), by omega, rfl, hlt, q⟩, fun x H' y => ?_⟩
    obtain ⟨G3, u3, F3, dx⟩ := F2.yield (yl x H' y)
    have h : ((M.opt (setG g ds[i] Γ2)).bind fun Γ2 => m Γ2).run s2 (fun f t => (match f with
      | Fl.nx Γ' => forLoop (fun d Γ1 => (M.opt (setG g d Γ1)).bind fun Γ2 => m Γ2) (ds.drop (i + 1)) Γ'
      | .ct Γ' => forLoop (fun d Γ1 => (M.opt (setG g d Γ1)).bind fun Γ2 => m Γ2) (ds.drop (i + 1)) Γ'
      | .bk Γ' => .pure (.nx Γ')
      | .rt d => .pure (.rt d) : M S Fl).run t (fun f s => FlK X T W P G D0 s f) noX) noX := h
    obtain ⟨Γ3, e3, h⟩ := opt_run h
    refine set_ok F3 dx e3 fun σ3 F3 _ => xS.by F3 (M.weak h fun f s3 h => ?_)
    cases f with
    | nx Γ4 => exact fun σ4 G4 H4 u4 F4 => ⟨G4, Γ4, s3, (u2.trans u3).trans u4, F4, h⟩
    | ct Γ4 => exact fun σ4 G4 H4 u4 F4 => ⟨G4, Γ4, s3, (u2.trans u3).trans u4, F4, h⟩
    | bk Γ4 => exact fun σ4 G4 H4 u4 F4 => h σ4 G4 H4 ((u1.trans (u2.trans u3)).trans u4) F4
    | rt d => exact fun v G4 H4 u4 w4 dr => h v G4 H4 ((u1.trans (u2.trans u3)).trans u4) w4 dr
  · left
    have e : i = ds.length := by omega
    subst e
    rw [List.drop_length] at h
    exact ⟨okH.2 rfl, h σ2 G2 H2 (u1.trans u2) F2⟩
theorem le_lcN {vs : List Nat} {g : IG} {w : TIv S} {t : TTv S} {e : TEv S} (hv : ∀ i ∈ g.slots, i ∈ vs) (σ : L2.St) (H : Hp) (Q : VK) : xE X.K T W (eLc vs g w t e) σ H Q → tLc (xIN X T W w) (tgOf X.K g) (xT X.K T W t) (xE X.K T W e) vs σ H Q := fun ⟨P, G, Γ, s, F, h⟩ => by
  refine ⟨P, G, Γ, s, F, M.weak h fun p s1 h J G1 H1 u1 F1 ok Da hD => ?_⟩
  obtain ⟨ds, Γp⟩ := p
  obtain ⟨⟨hc, hz⟩, h⟩ := h
  have F1 : Fr X.K T W P G1 Γp s1 σ H1 := F1
  have ok : ItOkN X.K T G1 J ds := ok
  have hz : ds.length ≤ 1000000 := hz
  obtain ⟨F0, m0, off0⟩ := F1.new hD (.lst [])
  obtain ⟨P0, F0', o0⟩ := Ow.of F0 (.own (d := .lst []) ⟨[], upd_same, .nil⟩ m0 off0)
  have nP : P Da = none := m0.p
  have e0 : P0 = upd P Da (.lst []) := by
    cases o0 with
    | @own a o d n ob =>
      obtain ⟨xs, e, r⟩ := ob
      cases r
      rw [e]
  subst e0
  refine ⟨fun i k H => k = ds.length - i ∧ i ≤ ds.length ∧ ∃ G' Γ' s' acc accD, Sub G1 G' ∧ Fr X.K T W (upd P Da (.lst acc)) G' Γ' s' (L2.wipe σ vs) H ∧ DRs X.K T G' acc accD ∧ accD.length ≤ i ∧
    (lcLoop (lcBody vs g t e) (ds.drop i) Γ').run s' (fun q t => ∀ v G' H', Sub G G' → Fr X.K T W P G' (backG Γp q.2 vs) t σ H' → RR X.K T W P G' (backG Γp q.2 vs) t σ H' v (.own (.lst (accD ++ q.1))) → Q v H') noX,
    ⟨ds.length, by simp, Nat.zero_le _, G1, wipeG Γp vs, s1, [], [], Sub.refl _, F0'.wipe vs, .nil, Nat.zero_le _, M.weak h fun q t h => h⟩, ?_⟩
  rintro i k H2 ⟨rfl, hi, G2, Γ2, s2, acc, accD, u2, F2, ra, hl, h⟩
  have okH := ok i H2 G2 u2 F2.wf.gh
  by_cases hlt : i < ds.length
  · right
    have ed : ds[i]? = some ds[i] := by simp [hlt]
    obtain ⟨go, yl⟩ := okH.1 _ ed
    rw [List.drop_eq_getElem_cons hlt] at h
    refine ⟨go, fun H3 => ∃ G' Γ' s' acc accD, Sub G1 G' ∧ Fr X.K T W (upd P Da (.lst acc)) G' Γ' s' (L2.wipe σ vs) H3 ∧ DRs X.K T G' acc accD ∧ accD.length ≤ i + 1 ∧
      (lcLoop (lcBody vs g t e) (ds.drop (i + 1)) Γ').run s' (fun q t => ∀ v G' H', Sub G G' → Fr X.K T W P G' (backG Γp q.2 vs) t σ H' → RR X.K T W P G' (backG Γp q.2 vs) t σ H' v (.own (.lst (accD ++ q.1))) → Q v H') noX, fun H3 q => ⟨ds.length - (i + 1), by omega, rfl, hlt, q⟩, fun x H' y => ?_⟩
    obtain ⟨G3, u3, F3y, dx⟩ := F2.yield (yl x H' y)
    have ra := ra.mono u3
    obtain ⟨Γ3, e3, h⟩ := opt_run (o := setG g ds[i] Γ2) h
    refine set_ok F3y dx e3 fun σ3 F3 sb => ?_
    have hw : L2.wipe σ3 vs = L2.wipe σ vs := (sb vs hv).trans (by
      have : ∀ us : List Nat, (∀ i ∈ us, i ∈ vs) → L2.wipe (L2.wipe σ us) vs = L2.wipe σ vs := fun us => by
        induction us with
        | nil => exact fun _ => rfl
        | cons u us ih => exact fun hu => (wipe_set (hu u List.mem_cons_self)).trans (ih fun i hi => hu i (List.mem_cons_of_mem _ hi))
      exact this vs fun _ z => z)
    refine ⟨hw, xT.by F3 (M.weak h fun q s4 h G4 H4 u4 F4 => ?_)⟩
    cases eq : q.1 with
    | false =>
      rw [if_neg (by decide)]
      have F5 := F4.wipe vs
      rw [hw] at F5
      exact ⟨G4, _, s4, acc, accD, (u2.trans u3).trans u4, F5, ra.mono u4, by omega, h.2 eq⟩
    | true =>
      rw [if_pos rfl]
      refine xE.opd F4 (M.weak (h.1 eq) fun r s5 h v G5 H5 u5 F5 o5 => ?_)
      obtain ⟨z, Γ6, G6, u6, F6, dz, h⟩ := frz_run F5 o5 h
      have hD5 : H5 Da = some (.lst acc) := F6.wf.ph _ _ upd_same
      refine ⟨acc, hD5, size_lt (by rw [ra.length]; omega), G6, wipeG Γ6 vs, s5, acc ++ [v], accD ++ [z], (u2.trans u3).trans (u4.trans (u5.trans u6)), ?_, (ra.mono (u4.trans (u5.trans u6))).append (.cons dz .nil), by rw [List.length_append, List.length_singleton]; omega, ?_⟩
      · have F7 := (F6.grow (o' := .lst (acc ++ [v])) nP).wipe vs
        rw [hw] at F7
        exact F7
      · refine M.weak (m := lcLoop (lcBody vs g t e) (ds.drop (i + 1)) (wipeG Γ6 vs)) h fun q t h => ?_
        intro v' G' H' u F r
        refine h v' G' H' u F ?_
        rw [List.append_assoc] at r
        exact r
  · left
    have ei : i = ds.length := by omega
    subst ei
    rw [List.drop_length] at h
    refine ⟨okH.2 rfl, ?_⟩
    obtain ⟨F3, m3, off3, e3⟩ := F2.back nP
    have F4 := F1.unwipe (vs := vs) u2 hc F3
    have h : ∀ v G' H', Sub G G' → Fr X.K T W P G' (backG Γp Γ2 vs) s2 σ H' → RR X.K T W P G' (backG Γp Γ2 vs) s2 σ H' v (.own (.lst (accD ++ []))) → Q v H' := h
    rw [List.append_nil] at h
    refine h _ G2 H2 (u1.trans u2) F4 (.own ⟨acc, e3, ra⟩ m3 fun j d z q => ?_)
    obtain ⟨F5, m5, off5, e5⟩ := (show Fr X.K T W (upd P Da (.lst acc)) G2 (backG Γp Γ2 vs) s2 σ H2 from (by
      obtain ⟨G0, _⟩ := (⟨G2, trivial⟩ : ∃ _ : Hp, True)
      refine ⟨⟨F4.wf.gh, F2.wf.ph, F2.wf.pg, F2.wf.pf, F4.wf.gf, F4.wf.w⟩, F4.len, F4.dat, fun j d z => ?_, F4.inj⟩
      rcases backG_get z with ⟨mm, zz⟩ | ⟨nn, zz⟩
      · exfalso
        cases qq : Γp[j]? with
        | none => rw [qq] at zz; cases zz
        | some sl => rw [qq] at zz; exact clearG_no hc mm (qq.trans (congrArg some zz.symm))
      · obtain ⟨b, h1, h2, h3⟩ := F2.own j d zz
        rw [wipe_out nn] at h1
        exact ⟨b, h1, h2, h3⟩)).back nP
    exact off5 j d z q
theorem de_lcN {elt tg iter : Expr} {ifs : List Expr} {scope : Scope} {own : List (Str × Nat)} {g : IG} {w : TIv S} {t : TTv S} {e : TEv S} (hc : X.calm = true) (hN : X.N.Nodup) (hi : DIN X T W tg iter w) (ok : BlkOk X.N X.env.scope scope own) (hv : ∀ i ∈ g.slots, i ∈ own.map (·.2))
    (hg : ∀ (s : Shared) (H : Hp) (C : Addr) (cl : List (Str × Addr)) (fp : List Addr), DG (X.blk s H scope (compEnvC scope cl C X.env) fp) tg g) (ht : ∀ (s : Shared) (H : Hp) (C : Addr) (cl : List (Str × Addr)) (fp : List Addr), DTs (X.blk s H scope (compEnvC scope cl C X.env) fp) T W ifs t)
    (he : ∀ (s : Shared) (H : Hp) (C : Addr) (cl : List (Str × Addr)) (fp : List Addr), DE (X.blk s H scope (compEnvC scope cl C X.env) fp) T W elt e) (hs : ∀ x, foldedSetIterable iter X.env x = pure x := by intro _; rfl) : DE X T W (.ListComp elt [⟨tg, iter, ifs, 0⟩] scope pos) (eLc (own.map (·.2)) g w t e) :=
  (pe_lc (g := tgOf X.K g) (tt := xT X.K T W t) (te := xE X.K T W e) hc hN hi ok hg ht he hs).weaken (le_lcN hv)
theorem ds_setLcN {i : Nat} {y : Str} {py spos : Pos} {elt tg iter : Expr} {ifs : List Expr} {scope : Scope} {own : List (Str × Nat)} {g : IG} {w : TIv S} {t : TTv S} {e : TEv S} (hc : X.calm = true) (hN : X.N.Nodup) (hy : X.N[i]? = some y) (hyl : X.env.scope.names.lookup y = some .local)
    (hsw : swapsWith (.ListComp elt [⟨tg, iter, ifs, 0⟩] scope pos) (some (.Name y py)) spos.line X.env = pure true) (hi : DIN X T W tg iter w) (ok : BlkOk X.N X.env.scope scope own) (hv : ∀ i ∈ g.slots, i ∈ own.map (·.2))
    (hg : ∀ (s : Shared) (H : Hp) (C : Addr) (cl : List (Str × Addr)) (fp : List Addr), DG (X.blk s H scope (compEnvC scope cl C X.env) fp) tg g) (ht : ∀ (s : Shared) (H : Hp) (C : Addr) (cl : List (Str × Addr)) (fp : List Addr), DTs (X.blk s H scope (compEnvC scope cl C X.env) fp) T W ifs t)
    (he : ∀ (s : Shared) (H : Hp) (C : Addr) (cl : List (Str × Addr)) (fp : List Addr), DE (X.blk s H scope (compEnvC scope cl C X.env) fp) T W elt e) (hs : ∀ x, foldedSetIterable iter X.env x = pure x := by intro _; rfl) : DS X T W (.Assign [.Name y py] (.ListComp elt [⟨tg, iter, ifs, 0⟩] scope pos) spos) (cSet i (eLc (own.map (·.2)) g w t e)) :=
  (ps_setLc (g := tgOf X.K g) (tt := xT X.K T W t) (te := xE X.K T W e) hc hN hy hyl hsw hi ok hg ht he hs).weaken fun D0 σ H h => le_lcN hv σ H _ (le_set h)
end
end Ev
/-! from E24.lean -/
set_option maxRecDepth 100000
set_option maxHeartbeats 4000000
/-! Ev, part 24: xs.insert(i, y), range(a, b, -1) in a for and in list(..). -/
namespace Ev
open PySem PySem.Spec PyProof.Rows L2
section
variable {S : Type} {X : Cx} {T : Nat → Option Addr} {W : Wd S} {ea eb ec : Expr} {a b c : TEv S} {pos : Pos}
def eIns (i : Nat) (e f : TEv S) : TEv S := fun Γ => (M.opt (ownL Γ i)).bind fun _ => (e Γ).bind fun p => (f p.2).bind fun p2 => (use p2.2 p.1).bind fun x => (isI x).bind fun j => (M.opt (frz p2.2 (opd p2.1))).bind fun q => (M.opt (ownL q.2 i)).bind fun ds =>
  .need (ds.length ≤ 1000000 ∧ 0 ≤ j ∧ j < 1000000) (.pure (.dat .non, q.2.set i (.own (.lst (ds.take j.toNat ++ [q.1] ++ ds.drop j.toNat)))))
theorem de_ins {i : Nat} {x : Str} {apos p2 : Pos} (hN : X.N[i]? = some x) (hv : Vis X.env.scope x) (ha : DE X T W ea a) (hb : DE X T W eb b) (hd : (x == ("__debug__" : Str)) = false := by decide) (hcd : (x == ("__classdict__" : Str)) = false := by decide)
    (hbase : attributeBase (.Name x p2) "insert" X.env (eval (.Name x p2) X.env) = eval (.Name x p2) X.env := by rfl) (hline : (apos.endLine == pos.line) = true := by rfl)
    (hfew : ((backTo pos (starEach [ea, eb] X.env)).all (fun x => !x.1) && (backToKw pos (keywordEach [] X.env)).all (fun x => x.1.isSome) && decide ([ea, eb].length + ([] : List Keyword).length + (if ([] : List Keyword).isEmpty then 0 else 1) < 30)) = true := by rfl)
    (hs : starEach [ea, eb] X.env = (false, eval ea X.env) :: starEach [eb] X.env := by rfl) (hs2 : starEach [eb] X.env = (false, eval eb X.env) :: starEach [] X.env := by rfl) (hplain : (backTo pos (starEach [eb] X.env)).any (·.1) = false := by rfl) : DE X T W (.Call (.Attribute (.Name x p2) "insert" apos) [ea, eb] [] pos) (eIns i a b) :=
  (pe_bm F.plainAttrs_list F.slot_list_insert F.type_list_insert mt_insert (pe_var hN hv hd hcd) (pa_cons ha (pa_cons hb pa_nil hs2) hs) hbase hfew hline hs hplain).weaken fun σ H Q ⟨P, G, Γ, s, F, h⟩ => by
    obtain ⟨_, l, xs0, e0, hσ, hl, _, _, h⟩ := ownL_run F h
    refine ⟨.ref l, hσ, .inl ⟨rfl, xs0, SqL.of hl⟩, ?_⟩
    refine xE.opd F (M.weak h fun p s1 h v G1 H1 u1 F1 o1 => ?_)
    refine xE.opd F1 (M.weak h fun p2 s2 h w G2 H2 u2 F2 o2 => ?_)
    obtain ⟨x, dx, h⟩ := use_run F2 (o1.mono u2) h
    obtain ⟨j, rfl, h⟩ := isI_run h
    obtain ⟨d, Γ', G3, u3, F3, dr, h⟩ := frz_run F2 o2 h
    obtain ⟨ds, l', xs, e1, hσ', hl', r, m, ⟨hz, j0, j1⟩, h⟩ := ownL_run F3 h
    rw [hσ] at hσ'; cases hσ'
    refine ⟨l, xs, j, w, rfl, by rw [dx.int], hl', by rw [r.length]; exact size_lt (by omega), j0, by omega, h _ G3 _ (u1.trans (u2.trans u3)) (F3.put e1 hσ (((r.take _).append (.cons dr .nil)).append (r.drop _))) (.dat .non)⟩
/-- lo, lo - 1, .. above hi -/
def rngD (lo hi : Int) : List D := (List.range (lo - hi).toNat).map fun (k : Nat) => .int (lo - k)
def rgD (lo hi : Int) : List V := (List.range (lo - hi).toNat).map fun (k : Nat) => .int (lo - k)
theorem rgD_rel {K : PySem.W.Frag} {G : Hp} (lo hi : Int) : DRs K T G (rgD lo hi) (rngD lo hi) := by
  have h : ∀ l : List Nat, DRs K T G (l.map fun (k : Nat) => V.int (lo - (k : Int))) (l.map fun (k : Nat) => D.int (lo - (k : Int))) := fun l => by
    induction l with
    | nil => exact .nil
    | cons k l ih => exact .cons (.int _) ih
  exact h _
def wR3 (a b c : TEv S) : TIv S := fun Γ => (a Γ).bind fun p => (b p.2).bind fun q => (c q.2).bind fun w => (use w.2 p.1).bind fun x => (use w.2 q.1).bind fun y => (use w.2 w.1).bind fun z => (isI x).bind fun i => (isI y).bind fun j => (isI z).bind fun k =>
  .need (k = -1 ∧ -1000000 ≤ i ∧ i ≤ 1000000 ∧ -1000000 ≤ j ∧ j ≤ 1000000) (.pure (rngD i j, w.2))
theorem ItOk.dn {K : PySem.W.Frag} {G : Hp} (lo hi : Int) : ItOk K T G (Itc lo (-1) (lo - hi).toNat) (rngD lo hi) := fun i H u => by
  have l : (rngD lo hi).length = (lo - hi).toNat := by unfold rngD; rw [List.length_map, List.length_range]
  refine ⟨fun d e => ?_, fun e => by rw [l] at e; exact e⟩
  have hlt : i < (lo - hi).toNat := l ▸ (List.getElem?_eq_some_iff.mp e).1
  refine ⟨hlt, fun x H' y => ⟨y.1, ?_⟩⟩
  unfold rngD at e
  rw [List.getElem?_map, List.getElem?_range hlt] at e
  cases e
  rw [y.2]
  have : lo + (i : Int) * -1 = lo - (i : Int) := by omega
  rw [this]
  exact .int _
theorem small62' {j : Int} (h : -1000000 ≤ j ∧ j ≤ 1000000) : -(2 ^ 62) ≤ j ∧ j < 2 ^ 62 := by omega
theorem di_r3 {tg : Expr} {p : Pos} (hg : Gl X "range") (hm : X.mg "range" = none) (ha : DE X T W ea a) (hb : DE X T W eb b) (hc : DE X T W ec c) (h1 : starEach [ea, eb, ec] X.env = (false, eval ea X.env) :: starEach [eb, ec] X.env := by rfl) (h2 : starEach [eb, ec] X.env = (false, eval eb X.env) :: starEach [ec] X.env := by rfl)
    (h3 : starEach [ec] X.env = (false, eval ec X.env) :: starEach [] X.env := by rfl) (hpl : (backTo pos (starEach [eb, ec] X.env)).any (·.1) = false := by rfl) : DI X T W tg (.Call (.Name "range" p) [ea, eb, ec] [] pos) (wR3 a b c) :=
  (pi_range3 hg hm (pa_cons ha (pa_cons hb (pa_cons hc pa_nil h3) h2) h1) h1 hpl).weaken fun σ H R ⟨P, G, Γ, s, F, h⟩ => by
    refine xE.opd F (M.weak h fun p s1 h v G1 H1 u1 F1 o1 => ?_)
    refine xE.opd F1 (M.weak h fun q s2 h w G2 H2 u2 F2 o2 => ?_)
    refine xE.opd F2 (M.weak h fun r s3 h t G3 H3 u3 F3 o3 => ?_)
    obtain ⟨x, dx, h⟩ := use_run F3 (o1.mono (u2.trans u3)) h
    obtain ⟨y, dy, h⟩ := use_run F3 (o2.mono u3) h
    obtain ⟨z, dz, h⟩ := use_run F3 o3 h
    obtain ⟨i, rfl, h⟩ := isI_run (x := x) h
    obtain ⟨j, rfl, h⟩ := isI_run (x := y) h
    obtain ⟨k, rfl, ⟨hk, z1, z2, z3, z4⟩, h9⟩ := isI_run (x := z) h
    subst hk
    have i1 := small62' ⟨z1, z2⟩
    have i2 := small62' ⟨z3, z4⟩
    exact ⟨i, j, -1, (i - j).toNat, by rw [dx.int, dy.int, dz.int], RgC.neg i1.1 i1.2 i2.1 i2.2, h9 _ G3 H3 (u1.trans (u2.trans u3)) F3 (.dn i j)⟩
/-- list(range(a, b, -1)) -/
def tLrd (ta : TA) : TE := fun σ H Q => ta σ H fun vs H1 => ∃ i j : Int, vs = [.int i, .int j, .int (-1)] ∧ -1000000 ≤ i ∧ i ≤ 1000000 ∧ -1000000 ≤ j ∧ j ≤ 1000000 ∧ ∀ l, H1 l = none → Q (.ref l) (upd H1 l (.lst (rgD i j)))
theorem vals_rgD {i j : Int} {acc : Array Value} (h : ItemsOf (fun (k : Nat) v => ∃ t, v = Value.int (i + k * (-1)) t) acc (i - j).toNat) : Vals (rgD i j) acc.toList := by
  obtain ⟨h1, h2⟩ := h
  have gen : ∀ (n : Nat) (vs : List Value), vs.length = n → (∀ k (hk : k < vs.length), ∃ t, vs[k] = Value.int (i + (k : Int) * (-1)) t) → Vals ((List.range n).map fun (k : Nat) => V.int (i - k)) vs := fun n => by
    induction n with
    | zero =>
      intro vs hl _
      have : vs = [] := List.length_eq_zero_iff.mp hl
      subst this; exact .nil
    | succ n ih =>
      intro vs hl hv
      have hs : vs = vs.take n ++ [vs[n]] := by
        rw [List.take_append_getElem, List.take_of_length_le (by omega)]
      rw [List.range_succ, List.map_append, hs]
      refine (ih (vs.take n) (by rw [List.length_take]; omega) fun k hk => ?_).append (.cons ?_ .nil)
      · rw [List.getElem_take]; exact hv k _
      · obtain ⟨t, e⟩ := hv n (by omega)
        rw [e]
        exact ⟨t, by rw [show i + (n : Int) * (-1) = i - (n : Int) by omega]⟩
  exact gen _ _ (by simpa using h1) fun k hk => by
    have hk : k < acc.size := by simpa using hk
    have := h2 k acc[k] (Array.getElem?_eq_getElem hk)
    simpa using this
theorem pe_lrd {ta : TA} {p p2 pos2 : Pos} (hcal : X.calm = true) (hg : Gl X "list") (hm : X.mg "list" = none) (hg2 : Gl X "range") (hm2 : X.mg "range" = none) (ha : PA X [ea, eb, ec] ta)
    (hs : starEach [ea, eb, ec] X.env = (false, eval ea X.env) :: starEach [eb, ec] X.env := by rfl) (hpl : (backTo pos2 (starEach [eb, ec] X.env)).any (·.1) = false := by rfl)
    (hs1 : starEach [.Call (.Name "range" p2) [ea, eb, ec] [] pos2] X.env = (false, eval (.Call (.Name "range" p2) [ea, eb, ec] [] pos2) X.env) :: starEach [] X.env := by rfl) :
    PE X (.Call (.Name "list" p) [.Call (.Name "range" p2) [ea, eb, ec] [] pos2] [] pos) (tLrd ta) := by
  refine ⟨fun pins s σ H Q I h => ?_⟩
  refine Call_ (ld_blt I hg hm boot_list (PyProof.Rows.callWith_type1 ?_ hs1 rfl))
  rw [hs1]
  show wpAny _ _ (spliced ((false, eval (.Call (.Name "range" p2) [ea, eb, ec] [] pos2) X.env) :: backTo pos (starEach [] X.env))) _ _ s
  refine Calls.spliced_cons ?_
  refine Call_ (ld_blt I hg2 hm2 boot_range (PyProof.Rows.callWith_type1 (thn (ha.run pos2 pins s σ H _ I h) fun us s1 ⟨vs, H1, I1, r1, q1⟩ => ?_) hs hpl))
  obtain ⟨i, j, e, b1, b2, b3, b4, q⟩ := q1
  subst e
  cases r1 with
  | cons r rr =>
    cases rr with
    | cons r' rr =>
      cases rr with
      | cons r'' rr =>
        cases rr
        obtain ⟨t, rfl⟩ := r
        obtain ⟨t', rfl⟩ := r'
        obtain ⟨t'', rfl⟩ := r''
        have i1 := small62' ⟨b1, b2⟩
        have i2 := small62' ⟨b3, b4⟩
        obtain ⟨c0, c1, c2, c3⟩ := RgC.neg i1.1 i1.2 i2.1 i2.2
        refine call_range_3 c0 ?_ (.inl (PyProof.noPylong_small c1))
        have I2 : Inv X pins σ H1 { s1 with heap := s1.heap.push { cls := .type "range", data := .fields #[.int i t, .int j t', .int (-1) t''] } } := I1.kept (t' := s1.toks) fun b o e => Heap.get?_push_of_some _ e
        refine Calls.spliced_nil ?_
        refine call_list_range (n := (i - j).toNat) (I2.ok.hd hcal) (IsRange.new ..) c2 c3 (by omega) fun h' tk acc c' hk e' hi' => ?_
        refine ⟨.ref _, upd H1 _ (.lst (rgD i j)), I2.laid hk (Nat.le_refl _) (show ObjOk X.prog X.w _ _ _ (.lst (rgD i j)) from ⟨?_, acc.toList, c', vals_rgD hi', ?_⟩), rfl, q _ (I2.hok.fresh (Nat.le_refl _))⟩
        · unfold rgD; rw [List.length_map, List.length_range, sizeLine_eq]; omega
        · rw [Array.toArray_toList]; exact e'
def eLrd (a b c : TEv S) : TEv S := fun Γ => (a Γ).bind fun p => (b p.2).bind fun q => (c q.2).bind fun w => (use w.2 p.1).bind fun x => (use w.2 q.1).bind fun y => (use w.2 w.1).bind fun z => (isI x).bind fun i => (isI y).bind fun j => (isI z).bind fun k =>
  .need (k = -1 ∧ -1000000 ≤ i ∧ i ≤ 1000000 ∧ -1000000 ≤ j ∧ j ≤ 1000000) (.pure (.own (.lst (rngD i j)), w.2))
theorem de_lrd {p p2 pos2 : Pos} (hcal : X.calm = true) (hg : Gl X "list") (hm : X.mg "list" = none) (hg2 : Gl X "range") (hm2 : X.mg "range" = none) (ha : DE X T W ea a) (hb : DE X T W eb b) (hc : DE X T W ec c) (h1 : starEach [ea, eb, ec] X.env = (false, eval ea X.env) :: starEach [eb, ec] X.env := by rfl) (h2 : starEach [eb, ec] X.env = (false, eval eb X.env) :: starEach [ec] X.env := by rfl)
    (h3 : starEach [ec] X.env = (false, eval ec X.env) :: starEach [] X.env := by rfl) (hpl : (backTo pos2 (starEach [eb, ec] X.env)).any (·.1) = false := by rfl)
    (hs1 : starEach [.Call (.Name "range" p2) [ea, eb, ec] [] pos2] X.env = (false, eval (.Call (.Name "range" p2) [ea, eb, ec] [] pos2) X.env) :: starEach [] X.env := by rfl) : DE X T W (.Call (.Name "list" p) [.Call (.Name "range" p2) [ea, eb, ec] [] pos2] [] pos) (eLrd a b c) :=
  (pe_lrd hcal hg hm hg2 hm2 (pa_cons ha (pa_cons hb (pa_cons hc pa_nil h3) h2) h1) h1 hpl hs1).weaken fun σ H Q ⟨P, G, Γ, s, F, h⟩ => by
    refine xE.opd F (M.weak h fun p s1 h v G1 H1 u1 F1 o1 => ?_)
    refine xE.opd F1 (M.weak h fun q s2 h w G2 H2 u2 F2 o2 => ?_)
    refine xE.opd F2 (M.weak h fun r s3 h t G3 H3 u3 F3 o3 => ?_)
    obtain ⟨x, dx, h⟩ := use_run F3 (o1.mono (u2.trans u3)) h
    obtain ⟨y, dy, h⟩ := use_run F3 (o2.mono u3) h
    obtain ⟨z, dz, h⟩ := use_run F3 o3 h
    obtain ⟨i, rfl, h⟩ := isI_run (x := x) h
    obtain ⟨j, rfl, h⟩ := isI_run (x := y) h
    obtain ⟨k, rfl, ⟨hk, z1, z2, z3, z4⟩, h9⟩ := isI_run (x := z) h
    subst hk
    exact ⟨i, j, by rw [dx.int, dy.int, dz.int], z1, z2, z3, z4, Kont.newL (ds := rngD i j) (kont (u1.trans (u2.trans u3)) h9) F3 (rgD_rel i j)⟩
end
end Ev
/-! from E25.lean -/
set_option maxRecDepth 100000
set_option maxHeartbeats 4000000
/-! Ev, part 25: zip of two lists or tuples. -/
namespace Ev
open PySem PySem.Spec PyProof.Rows L2
/-- a list (false), a tuple (true) -/
def SqB (b : Bool) (K : PySem.W.Frag) (H : Hp) (a : Addr) (xs : List V) : Prop := match b with | true => SqT K H a xs | false => SqL K H a xs
def ItB (b : Bool) (h : Heap) (it a : Addr) (i : Nat) : Prop := match b with | true => h.IsTupleIter it a i | false => h.IsListIter it a i
def IsB (b : Bool) (h : Heap) (a : Addr) (its : Array Value) : Prop := match b with | true => h.IsTuple a its | false => h.IsList a its
theorem SqB.plain {b : Bool} {X : Cx} {pins : List (Addr × Obj)} {σ : L2.St} {H : Hp} {s : Shared} (I : Inv X pins σ H s) {a : Addr} {xs : List V} (h : SqB b X.K H a xs) : ∃ its : List Value, Vals xs its ∧ IsB b s.heap a its.toArray ∧ a < s.heap.objs.size := by
  cases b with
  | true =>
    obtain ⟨its, rv, p, _⟩ := I.tuple (show SqT X.K H a xs from h)
    have q := p
    obtain ⟨o, ho, _⟩ := q
    exact ⟨its, rv, p, Heap.lt_size ho⟩
  | false =>
    obtain ⟨its, rv, p, _⟩ := I.list (show SqL X.K H a xs from h)
    exact ⟨its, rv, p.isList, p.lt⟩
theorem SqB.inj {b : Bool} {X : Cx} {pins : List (Addr × Obj)} {σ : L2.St} {H : Hp} {s : Shared} (I : Inv X pins σ H s) {a : Addr} {xs ys : List V} (h1 : SqB b X.K H a xs) (h2 : SqB b X.K H a ys) : xs = ys := by
  cases b with
  | true => exact I.tuple_inj h1 h2
  | false => exact I.list_inj h1 h2
theorem ItB.at {b : Bool} {h h' : Heap} {it a : Addr} {i : Nat} (q : ItB b h it a i) (k : ∀ o, h.get? it = some o → h'.get? it = some o) : ItB b h' it a i := by
  cases b with
  | true => exact Heap.IsTupleIter.at q k
  | false => exact Heap.IsListIter.at q k
theorem ItB.obj {b : Bool} {h : Heap} {it a : Addr} {i : Nat} (q : ItB b h it a i) : ∃ o, h.get? it = some o ∧ ∀ v, o.data ≠ .cell v := by
  cases b with
  | true => obtain ⟨o, e, _, d⟩ := q; exact ⟨o, e, fun v z => by rw [d] at z; cases z⟩
  | false => obtain ⟨o, e, _, d⟩ := q; exact ⟨o, e, fun v z => by rw [d] at z; cases z⟩
theorem drawsB {prog : Program} {w : World} {A : Around} (hh : A.handled = none) (b : Bool) (it a : Addr) (hne : a ≠ it) (items : Array Value) :
    Draws prog w A it [it, a] items.size (fun i v => items[i]? = some v) (fun i h => ItB b h it a i ∧ IsB b h a items) := by
  cases b with
  | true => exact Draws.tuple hh it a hne items
  | false => exact Draws.list hh it a hne items
def objB (b : Bool) (a : Addr) : Obj := match b with
  | true => { cls := .type "tuple_iterator", data := .fields #[.ref a, .int 0 0] }
  | false => { cls := .type "list_iterator", data := .fields #[.ref a, .int 0 0] }
theorem beginsB (b : Bool) (a : Addr) (items : Array Value) : Begins (.ref a) (objB b a) fun h => IsB b h a items := by
  cases b with
  | true => exact begins_tuple a items
  | false => exact begins_list a items
theorem ItB.new {b : Bool} {h : Heap} {it a : Addr} (e : h.get? it = some (objB b a)) : ItB b h it a 0 := by
  cases b with
  | true => exact ⟨_, e, rfl, rfl⟩
  | false => exact ⟨_, e, rfl, rfl⟩
/-- pairs of what both have -/
def Izp (K : PySem.W.Frag) (b1 b2 : Bool) (a b : Addr) : It :=
  ⟨fun i H => ∃ (xs ys : List V) (x y : V), SqB b1 K H a xs ∧ SqB b2 K H b ys ∧ xs[i]? = some x ∧ ys[i]? = some y,
   fun i H v H' => ∃ (T : Addr) (ob : Obj) (x y : V), v = .ref T ∧ H T = none ∧ ob.dict = none ∧ H' = upd H T (.frz ob (.tup [x, y])) ∧ (∀ xs, SqB b1 K H a xs → xs[i]? = some x) ∧ ∀ ys, SqB b2 K H b ys → ys[i]? = some y,
   fun i H => ∃ xs ys : List V, SqB b1 K H a xs ∧ SqB b2 K H b ys ∧ min xs.length ys.length = i⟩
theorem turn_zp {P : Program} {w : World} {K : PySem.W.Frag} {elts : List Expr} {kk : Nat} {tpos : Pos} {b1 b2 : Bool} {a b z TI TO i1 i2 : Addr} (D : ZipSep2 z TI TO i1 i2 [i1, a] [i2, b]) (ha : a ≠ i1) (hb : b ≠ i2) :
    Turn P w K (.Tuple elts kk tpos) (Izp K b1 b2 a b) [z, TI, TO, i1, i2] z (fun i h => IsZip h z TI TO .none ∧ IsTupOf2 h TI (.ref i1) (.ref i2) ∧ (∃ x y, IsTupOf2 h TO x y) ∧ ItB b1 h i1 a i ∧ ItB b2 h i2 b i) where
  mem := by simp
  obj := fun i h st c hc => by
    obtain ⟨hz, hTI, ⟨x, y, hTO⟩, h1, h2⟩ := st
    have e' : c = z ∨ c = TI ∨ c = TO ∨ c = i1 ∨ c = i2 := by simpa using hc
    rcases e' with q | q | q | q | q
    · rw [q]; exact ⟨_, hz, fun v q => nomatch q⟩
    · rw [q]; exact ⟨_, hTI, fun v q => nomatch q⟩
    · rw [q]; exact ⟨_, hTO, fun v q => nomatch q⟩
    · rw [q]; exact h1.obj
    · rw [q]; exact h2.obj
  keep := fun i h h' st k => by
    obtain ⟨hz, hTI, ⟨x, y, hTO⟩, h1, h2⟩ := st
    exact ⟨k z (by simp) _ hz, k TI (by simp) _ hTI, ⟨x, y, k TO (by simp) _ hTO⟩, h1.at fun o q => k i1 (by simp) o q, h2.at fun o q => k i2 (by simp) o q⟩
  item := by
    intro X hP hw hK hc i pins s σ H E I hf st hg
    subst hP hw hK
    obtain ⟨hz, hTI, ⟨x0, y0, hTO⟩, h1, h2⟩ := st
    obtain ⟨xs, ys, x, y, hqx, hqy, hx, hy⟩ := hg
    obtain ⟨its, rv, p, _⟩ := hqx.plain I
    obtain ⟨its2, rv2, p2, _⟩ := hqy.plain I
    obtain ⟨u, hu, ru⟩ := rv.get hx
    obtain ⟨u2, hu2, ru2⟩ := rv2.get hy
    have hzl : z < s.heap.objs.size := Heap.lt_size hz
    have hi1 : i < its.toArray.size := by rw [List.size_toArray]; exact (List.getElem?_eq_some_iff.mp hu).1
    have hi2 : i < its2.toArray.size := by rw [List.size_toArray]; exact (List.getElem?_eq_some_iff.mp hu2).1
    have hh : X.A.in1.handled = none := I.ok.hd hc
    refine wpAny_pyNext_zipD2_item D (drawsB hh b1 i1 a ha its.toArray) (drawsB hh b2 i2 b hb its2.toArray) hz hTI hTO ⟨h1, p⟩ ⟨h2, p2⟩ hi1 hi2 fun v1 v2 h' tk e1 e2 z' TO' st1 st2 hT hsz hk => ?_
    have ev1 : v1 = u := by
      have : its.toArray[i]? = some v1 := e1
      rw [List.getElem?_toArray, hu] at this
      exact (Option.some.inj this).symm
    have ev2 : v2 = u2 := by
      have : its2.toArray[i]? = some v2 := e2
      rw [List.getElem?_toArray, hu2] at this
      exact (Option.some.inj this).symm
    subst ev1 ev2
    refine ⟨_, rfl, wpAny_letOwnedTupleGo_zip (s := { s with heap := h', toks := tk }) z' fun h'' z'' sb => ?_⟩
    have hT2 : h''.get? s.heap.objs.size = some { cls := .type "tuple", data := .seq #[v1, v2] } := (sb.2 _ (Nat.ne_of_gt hzl)).trans hT
    have new : ObjOk X.prog X.w (upd H s.heap.objs.size (.frz { cls := .type "tuple", data := .seq #[v1, v2] } (.tup [x, y]))) h'' s.heap.objs.size (.frz { cls := .type "tuple", data := .seq #[v1, v2] } (.tup [x, y])) :=
      ⟨hT2, by show 2 ≤ sizeLine; decide, [v1, v2], .cons ru (.cons ru2 .nil), ⟨_, hT2, rfl, _, rfl⟩⟩
    have I1 : Inv X pins σ (upd H s.heap.objs.size (.frz { cls := .type "tuple", data := .seq #[v1, v2] } (.tup [x, y]))) { s with heap := h'', toks := tk } :=
      I.turnedNew (ch := [z, TI, TO, i1, i2]) (fun c o hb q => (sb.2 c (fun q' => hb (by simp [q']))).trans (hk c o (fun q' => hb (by simp [q'])) (fun q' => hb (by simp [q'])) (fun q' => hb (by simp [q'])) (fun q' => hb (by simp [q'])) q)) hf (Nat.le_refl _) new
    refine ⟨.ref s.heap.objs.size, _, I1, rfl, ⟨_, _, x, y, rfl, I.hok.fresh (Nat.le_refl _), rfl, rfl, fun l hl => by rw [SqB.inj I hl hqx]; exact hx, fun l hl => by rw [SqB.inj I hl hqy]; exact hy⟩, ⟨z'', ?_, ⟨v1, v2, ?_⟩, ?_, ?_⟩, fun c hcm => ?_⟩
    · exact (sb.2 _ D.TIz).trans (hk _ _ D.TIz D.TITO D.TIi1 D.TIi2 hTI)
    · exact (sb.2 _ D.TOz).trans TO'
    · exact st1.1.at fun o q => (sb.2 _ (Ne.symm D.zi1)).trans q
    · exact st2.1.at fun o q => (sb.2 _ (Ne.symm D.zi2)).trans q
    · have hlt : c < s.heap.objs.size := by
        have e' : c = z ∨ c = TI ∨ c = TO ∨ c = i1 ∨ c = i2 := by simpa using hcm
        rcases e' with q | q | q | q | q
        · rw [q]; exact hzl
        · rw [q]; exact Heap.lt_size hTI
        · rw [q]; exact Heap.lt_size hTO
        · rw [q]; obtain ⟨_, e1, _⟩ := h1.obj; exact Heap.lt_size e1
        · rw [q]; obtain ⟨_, e2, _⟩ := h2.obj; exact Heap.lt_size e2
      rw [upd_ne (Nat.ne_of_lt hlt)]
      exact (hf c hcm).1
  done := by
    intro X hP hw hK hc i pins s σ H E I hf st hg
    subst hP hw hK
    obtain ⟨hz, hTI, ⟨x0, y0, hTO⟩, h1, h2⟩ := st
    obtain ⟨xs, ys, hqx, hqy, hend⟩ := hg
    obtain ⟨its, rv, p, _⟩ := hqx.plain I
    obtain ⟨its2, rv2, p2, _⟩ := hqy.plain I
    have l1 := rv.length
    have l2 := rv2.length
    have hh : X.A.in1.handled = none := I.ok.hd hc
    refine wpAny_pyNext_zipD2_end D (drawsB hh b1 i1 a ha its.toArray) (drawsB hh b2 i2 b hb its2.toArray) hz hTI hTO ⟨h1, p⟩ ⟨h2, p2⟩ (by rw [List.size_toArray]; omega) (by rw [List.size_toArray]; omega) (by rw [List.size_toArray, List.size_toArray]; omega) fun h' tk hk => ⟨rfl, I.turnedL (t' := tk) (ch := [z, TI, TO, i1, i2]) (fun c o hb q => hk c o (fun q' => hb (by simp [q'])) (fun q' => hb (by simp [q'])) (fun q' => hb (by simp [q'])) (fun q' => hb (by simp [q'])) q) hf⟩
  self := fun A i s Q E st h => let ⟨hz, _⟩ := st; wpAny_pyIter_zip hz h
def iZp (K : PySem.W.Frag) (ta : TA) : TI := fun σ H R => ta σ H fun vs H1 => ∃ a b b1 b2 xs ys, vs = [.ref a, .ref b] ∧ SqB b1 K H1 a xs ∧ SqB b2 K H1 b ys ∧ R (Izp K b1 b2 a b) H1
theorem pi_zp {X : Cx} {e e2 : Expr} {ta : TA} {p pos tpos : Pos} {elts : List Expr} {kk : Nat} (hg : Gl X "zip") (hm : X.mg "zip" = none) (ha : PA X [e, e2] ta)
    (hs : starEach [e, e2] X.env = (false, eval e X.env) :: starEach [e2] X.env := by rfl) (hpl : (backTo pos (starEach [e2] X.env)).any (·.1) = false := by rfl) :
    PI X (.Tuple elts kk tpos) (.Call (.Name "zip" p) [e, e2] [] pos) (iZp X.K ta) := by
  refine ⟨fun pins s σ H R I h => ?_⟩
  refine Call_ (ld_blt I hg hm PyProof.Rows.boot_zip (PyProof.Rows.callWith_type1 (thn (ha.run pos pins s σ H _ I h) fun us s1 ⟨vs, H1, I1, r1, q1⟩ => ?_) hs hpl))
  obtain ⟨a, b, b1, b2, xs, ys, ex, hqx, hqy, q⟩ := q1
  subst ex
  cases r1 with
  | cons r rr =>
    cases rr with
    | cons r' rr =>
      cases rr
      cases r
      cases r'
      obtain ⟨its, rv, p1, la⟩ := hqx.plain I1
      obtain ⟨its2, rv2, p2, lb⟩ := hqy.plain I1
      refine zip_begins2 (beginsB b1 a its.toArray) (beginsB b2 b its2.toArray) p1 p2 fun h' hz hTI hTO h1 h2 hsz hk => wpAny_pyIter_zip hz ?_
      have I2 : Inv X pins σ H1 { s1 with heap := h' } := I1.kept (t' := s1.toks) hk
      refine ⟨s1.heap.objs.size + 4, [s1.heap.objs.size + 4, s1.heap.objs.size + 2, s1.heap.objs.size + 3, s1.heap.objs.size, s1.heap.objs.size + 1], _, _, H1, rfl, I2, turn_zp (b1 := b1) (b2 := b2) (a := a) (b := b) (zip_sep2 (N := s1.heap.objs.size) (fp1 := [a]) (fp2 := [b]) (fun c hc => by rw [List.mem_singleton.mp hc]; exact la) (fun c hc => by rw [List.mem_singleton.mp hc]; exact lb)) (Nat.ne_of_lt la) (fun z => by have : b < s1.heap.objs.size := lb; rw [z] at this; exact absurd this (by simp)), ⟨hz, hTI, ⟨_, _, hTO⟩, ItB.new h1, ItB.new h2⟩, fun c hcm => ?_, q⟩
      have e' : c = s1.heap.objs.size + 4 ∨ c = s1.heap.objs.size + 2 ∨ c = s1.heap.objs.size + 3 ∨ c = s1.heap.objs.size ∨ c = s1.heap.objs.size + 1 := by simpa using hcm
      have hle : s1.heap.objs.size ≤ c := by
        rcases e' with z | z | z | z | z
        · rw [z]; exact Nat.le_add_right _ _
        · rw [z]; exact Nat.le_add_right _ _
        · rw [z]; exact Nat.le_add_right _ _
        · rw [z]; exact Nat.le_refl _
        · rw [z]; exact Nat.le_add_right _ _
      exact I1.fpOk hle (I1.hok.fresh hle)
section
variable {S : Type} {X : Cx} {T : Nat → Option Addr} {W : Wd S} {ea eb : Expr} {a b : TEv S} {pos : Pos}
def zipD : List D → List D → List D
  | d :: ds, e :: es => .tup [d, e] :: zipD ds es
  | _, _ => []
theorem zipD_len : ∀ ds es : List D, (zipD ds es).length = min ds.length es.length
  | [], _ => by simp [zipD]
  | _ :: _, [] => by simp [zipD]
  | d :: ds, e :: es => by simp only [zipD, List.length_cons, zipD_len ds es]; omega
theorem zipD_at : ∀ (ds es : List D) (i : Nat) (d : D), (zipD ds es)[i]? = some d → ∃ x y, ds[i]? = some x ∧ es[i]? = some y ∧ d = .tup [x, y]
  | [], _, _, _, e => by simp [zipD] at e
  | _ :: _, [], _, _, e => by simp [zipD] at e
  | d :: ds, e :: es, 0, z, q => ⟨d, e, rfl, rfl, by simpa [zipD] using q.symm⟩
  | d :: ds, e :: es, i + 1, z, q => zipD_at ds es i z q
def wZp (e f : TEv S) : TIv S := fun Γ => (e Γ).bind fun p => (f p.2).bind fun p2 => (M.opt (frz p2.2 (opd p.1))).bind fun q => (M.opt (frz q.2 (opd p2.1))).bind fun q2 => (M.opt (seqOf q.1)).bind fun ds => (M.opt (seqOf q2.1)).bind fun es => .pure (zipD ds es, q2.2)
theorem DR.sqB {K : PySem.W.Frag} {G H : Hp} {v : V} {d : D} {ds : List D} (u : Sub G H) (h : DR K T G v d) (e : seqOf d = some ds) : ∃ a b xs, v = .ref a ∧ (∀ H, Sub G H → SqB b K H a xs) ∧ DRs K T G xs ds := by
  cases d with
  | tup ys =>
    cases e
    cases h with
    | tup hq r => exact ⟨_, true, _, rfl, fun H u => (u.tp hq).sq, r⟩
  | lst ys =>
    cases e
    cases h with
    | lst hq r => exact ⟨_, false, _, rfl, fun H u => SqL.of (u _ _ hq), r⟩
  | _ => cases e
theorem di_zp {elts : List Expr} {kk : Nat} {tpos p : Pos} (hg : Gl X "zip") (hm : X.mg "zip" = none) (ha : DE X T W ea a) (hb : DE X T W eb b) (h1 : starEach [ea, eb] X.env = (false, eval ea X.env) :: starEach [eb] X.env := by rfl) (h2 : starEach [eb] X.env = (false, eval eb X.env) :: starEach [] X.env := by rfl) (hpl : (backTo pos (starEach [eb] X.env)).any (·.1) = false := by rfl) :
    DIN X T W (.Tuple elts kk tpos) (.Call (.Name "zip" p) [ea, eb] [] pos) (wZp a b) := (pi_zp hg hm (pa_cons ha (pa_cons hb pa_nil h2) h1) h1 hpl).weaken fun σ H R ⟨P, G, Γ, s, F, h⟩ => by
  refine xE.opd F (M.weak h fun p s1 h v G1 H1 u1 F1 o1 => ?_)
  refine xE.opd F1 (M.weak h fun p2 s2 h w G2 H2 u2 F2 o2 => ?_)
  obtain ⟨d, Γ', G3, u3, F3, dr, h⟩ := frz_run F2 (o1.mono u2) h
  obtain ⟨e, Γ'', G4, u4, F4, er, h⟩ := frz_run F3 (o2.mono u3) h
  obtain ⟨ds, q1, h⟩ := opt_run h
  obtain ⟨es, q2, h⟩ := opt_run h
  obtain ⟨a1, b1, xs, rfl, hx, rx⟩ := (dr.mono u4).sqB F4.wf.gh q1
  obtain ⟨a2, b2, ys, rfl, hy, ry⟩ := er.sqB F4.wf.gh q2
  refine ⟨a1, a2, b1, b2, xs, ys, rfl, hx _ F4.wf.gh, hy _ F4.wf.gh, h _ G4 H2 (u1.trans (u2.trans (u3.trans u4))) F4 fun i H G' u u' => ?_⟩
  have qx := hx _ (u.trans u')
  have qy := hy _ (u.trans u')
  refine ⟨fun d' e' => ?_, fun e' => ⟨xs, ys, qx, qy, by rw [rx.length, ry.length, e', zipD_len]⟩⟩
  obtain ⟨x, y, ex, ey, rfl⟩ := zipD_at _ _ _ _ e'
  obtain ⟨v, ev, dv⟩ := rx.get ex
  obtain ⟨w, ew, dw⟩ := ry.get ey
  refine ⟨⟨xs, ys, v, w, qx, qy, ev, ew⟩, fun x' H' yl => ?_⟩
  obtain ⟨T', ob, x1, y1, rfl, n, hd, rfl, hx1, hy1⟩ := yl
  have t1 := hx1 xs qx
  have t2 := hy1 ys qy
  rw [ev] at t1; cases t1
  rw [ew] at t2; cases t2
  exact .inr ⟨T', ob, _, _, rfl, n, hd, rfl, rfl, .cons (dv.mono u) (.cons (dw.mono u) .nil)⟩
end
end Ev
/-! from E26.lean -/
set_option maxRecDepth 100000
set_option maxHeartbeats 4000000
/-! Ev, part 26: divmod; sum, max, min of a list of ints. -/
namespace Ev
open PySem PySem.Spec PyProof.Rows L2
theorem call_divmodF {X : Cx} : CallR X (.builtin "divmod") (fun xs H Q => ∃ i j, xs = [.int i, .int j] ∧ j ≠ 0 ∧ j.natAbs < 1073741824 ∧ NewF H Q [.int (i.fdiv j), .int (i.fmod j)]) := by
  intro pins s σ H xs us Q I r h
  obtain ⟨i, j, rfl, h1, h2, q⟩ := h
  obtain ⟨u, w', rfl, ⟨t, rfl⟩, ⟨t', rfl⟩⟩ := vals2 r
  refine divmod_int h1 ?_ (.inl (PyProof.noPylong_small h2))
  exact tnew (t' := s.toks + 1 + 1) I (xs := [V.int (i.fdiv j), V.int (i.fmod j)]) (its := [.int (i.fdiv j) s.toks, .int (i.fmod j) (s.toks + 1)]) (.cons ⟨_, rfl⟩ (.cons ⟨_, rfl⟩ .nil)) (by simp only [List.length_cons, List.length_nil]; rw [sizeLine_eq]; decide) q
section
variable {S : Type}
def opDivmod : List D → M S Rv
  | [.int i, .int j] => .need (j ≠ 0 ∧ j.natAbs < 1073741824) (.pure (.dat (.tup [.int (i.fdiv j), .int (i.fmod j)])))
  | _ => .fail
def opSum : List D → M S Rv
  | [.lst ds] => (M.opt (intsOf ds)).bind fun ns => .pure (.dat (.int ns.sum))
  | _ => .fail
def opMax : List D → M S Rv
  | [.lst ds] => (M.opt (intsOf ds)).bind fun ns => .need (0 < ns.length) ((M.some fun m : Int => m ∈ ns ∧ ∀ y, y ∈ ns → y ≤ m).bind fun m => .pure (.dat (.int m)))
  | _ => .fail
def opMin : List D → M S Rv
  | [.lst ds] => (M.opt (intsOf ds)).bind fun ns => .need (0 < ns.length) ((M.some fun m : Int => m ∈ ns ∧ ∀ y, y ∈ ns → m ≤ y).bind fun m => .pure (.dat (.int m)))
  | _ => .fail
variable {X : Cx} {T : Nat → Option Addr} {W : Wd S} {ea : Expr} {es : List Expr} {ms : TEs S} {pos : Pos} {K : PySem.W.Frag} {P G G' H : Hp} {Γ : List Sl} {s : S} {σ : L2.St} {Q : VK}
theorem divmod_ok : OpOk K T W (opDivmod (S := S)) (fun xs H Q => ∃ i j, xs = [.int i, .int j] ∧ j ≠ 0 ∧ j.natAbs < 1073741824 ∧ NewF H Q [.int (i.fdiv j), .int (i.fmod j)]) := fun P G H Γ s σ Q xs vs E0 Qr F hx h hq => by
  match xs, h with
  | [.int i, .int j], h =>
    obtain ⟨v, w, rfl, hv, hw⟩ := hx.two
    cases hv.int
    cases hw.int
    exact ⟨i, j, rfl, h.1.1, h.1.2, Kont.newT (ds := [.int (i.fdiv j), .int (i.fmod j)]) (hq _ h.2) F (.cons (.int _) (.cons (.int _) .nil))⟩
theorem sum_ok : OpOk K T W (opSum (S := S)) (rSum K) := fun P G H Γ s σ Q xs vs E0 Qr F hx h hq => by
  have sub := F.wf.gh
  match xs, h with
  | [.lst ds], h =>
    obtain ⟨v, rfl, hv⟩ := hx.one
    obtain ⟨a, ys, rfl, ha, r⟩ := hv.lst sub
    obtain ⟨ns, e, h⟩ := opt_run h
    rw [r.intsOf e] at ha
    exact ⟨a, ns, rfl, SqL.of ha, (hq _ h).dat F (.int _)⟩
theorem max_ok : OpOk K T W (opMax (S := S)) (rMax K) := fun P G H Γ s σ Q xs vs E0 Qr F hx h hq => by
  have sub := F.wf.gh
  match xs, h with
  | [.lst ds], h =>
    obtain ⟨v, rfl, hv⟩ := hx.one
    obtain ⟨a, ys, rfl, ha, r⟩ := hv.lst sub
    obtain ⟨ns, e, h⟩ := opt_run h
    rw [r.intsOf e] at ha
    exact ⟨a, ns, rfl, SqL.of ha, h.1, fun m h1 h2 => (hq _ (h.2 m ⟨h1, h2⟩)).dat F (.int _)⟩
theorem min_ok : OpOk K T W (opMin (S := S)) (rMin K) := fun P G H Γ s σ Q xs vs E0 Qr F hx h hq => by
  have sub := F.wf.gh
  match xs, h with
  | [.lst ds], h =>
    obtain ⟨v, rfl, hv⟩ := hx.one
    obtain ⟨a, ys, rfl, ha, r⟩ := hv.lst sub
    obtain ⟨ns, e, h⟩ := opt_run h
    rw [r.intsOf e] at ha
    exact ⟨a, ns, rfl, SqL.of ha, h.1, fun m h1 h2 => (hq _ (h.2 m ⟨h1, h2⟩)).dat F (.int _)⟩
end
end Ev
/-! from E27.lean -/
set_option maxRecDepth 100000
set_option maxHeartbeats 4000000
/-! Ev, part 27: a module's name that is a built-in; factorial; sum of a list or tuple; min of a list of data. -/
namespace Ev
open PySem PySem.Spec PyProof.Rows L2
theorem fact_small : ∀ k, k ≤ 200 → ((((Builtin.Math.factorialNat k : Nat) : Int)).natAbs.log2 < bitsLine) := by
  have h : (List.range 201).all (fun k => decide ((Builtin.Math.factorialNat k).log2 < bitsLine)) = true := by decide +kernel
  intro k hk
  have := List.all_eq_true.mp h k (List.mem_range.mpr (by omega))
  rw [Int.natAbs_natCast]
  exact of_decide_eq_true this
theorem call_fact {X : Cx} : CallR X (.builtin "math.factorial") (fun xs H Q => ∃ i, xs = [.int i] ∧ 0 ≤ i ∧ i ≤ 200 ∧ Q (.int ((Builtin.Math.factorialNat i.toNat : Nat) : Int)) H) := by
  intro pins s σ H xs us Q I r h
  obtain ⟨i, rfl, h0, h1, q⟩ := h
  obtain ⟨u, rfl, ⟨t, rfl⟩⟩ := vals1 r
  refine PySem.W.mg_factorial (by show ¬ i > (9223372036854775807 : Int); omega) (by omega) (by show ¬ i > (20000 : Int); omega) (fact_small _ (by omega)) ⟨.int _, H, I.tok _, ⟨_, rfl⟩, q⟩
def rSumT (K : PySem.W.Frag) : List V → Hp → VK → Prop := fun vs H Q => ∃ (a : Addr) (ns : List Int), vs = [V.ref a] ∧ SqT K H a (ns.map V.int) ∧ Q (.int ns.sum) H
theorem cr_sumT {X : Cx} (hc : X.calm = true) : CallR X (.builtin "sum") (rSumT X.K) := by
  intro pins s σ H vs us Q I r h
  obtain ⟨a, ns, rfl, hs, q⟩ := h
  obtain ⟨its, rv, hl, _⟩ := I.tuple hs
  rw [Vals.ref1 r]
  have hi := rv.ints
  obtain ⟨xs, e⟩ := hi.allInts.items
  have hn : numsOf (intItems xs).toList = ns := by rw [← e]; exact hi.numsOf
  rw [nums_intItems] at hn
  rw [e] at hl
  refine PySem.W.ktm_sumG (I.ok.hd hc) hl fun h' tk t' hk => ?_
  rw [preSum_eq, List.take_of_length_le (by simp), hn]
  exact ⟨.int _, H, I.kept hk, ⟨_, rfl⟩, q⟩
section
variable {S : Type}
def opFact : List D → M S Rv
  | [.int i] => .need (0 ≤ i ∧ i ≤ 200) (.pure (.dat (.int ((Builtin.Math.factorialNat i.toNat : Nat) : Int))))
  | _ => .fail
def opSum2 : List D → M S Rv
  | [.lst ds] => (M.opt (intsOf ds)).bind fun ns => .pure (.dat (.int ns.sum))
  | [.tup ds] => (M.opt (intsOf ds)).bind fun ns => .pure (.dat (.int ns.sum))
  | _ => .fail
variable {X : Cx} {T : Nat → Option Addr} {W : Wd S} {ea : Expr} {es : List Expr} {ms : TEs S} {pos : Pos} {K : PySem.W.Frag} {P G G' H : Hp} {Γ : List Sl} {s : S} {σ : L2.St} {Q : VK}
theorem de_opG {op : List D → M S Rv} {r : List V → Hp → VK → Prop} {x : Str} {p : Pos} {id : String} (ok : OpOk X.K T W op r) (hr : CallR X (.builtin id) r) (hg : Gl X x) (hm : X.mg x = some (.builtin id)) (ha : DA X T W (ea :: es) ms) (hdb : (x == ("__debug__" : Str)) = false := by decide)
    (he : starEach (ea :: es) X.env = (false, eval ea X.env) :: starEach es X.env := by rfl) (hpl : (backTo pos (starEach es X.env)).any (·.1) = false := by rfl) : DE X T W (.Call (.Name x p) (ea :: es) [] pos) (eOp op ms) :=
  (StS.pe_callG hr hg hm ha hdb he hpl).weaken fun σ H Q ⟨P, G, Γ, s, F, h⟩ => by
    refine xA.by F (M.weak h fun p s1 h vs G1 H1 u1 F1 o1 => ?_)
    obtain ⟨xs, e, h⟩ := opt_run h
    exact ok _ _ _ _ _ _ _ _ _ _ _ F1 (OPs.vals F1 o1 e) h fun r hr => kont u1 hr
theorem fact_ok : OpOk K T W (opFact (S := S)) (fun xs H Q => ∃ i, xs = [.int i] ∧ 0 ≤ i ∧ i ≤ 200 ∧ Q (.int ((Builtin.Math.factorialNat i.toNat : Nat) : Int)) H) := fun P G H Γ s σ Q xs vs E0 Qr F hx h hq => by
  match xs, h with
  | [.int i], h =>
    obtain ⟨v, rfl, hv⟩ := hx.one
    cases hv.int
    exact ⟨i, rfl, h.1.1, h.1.2, (hq _ h.2).dat F (.int _)⟩
theorem sum2_ok : OpOk K T W (opSum2 (S := S)) (fun vs H Q => rSum K vs H Q ∨ rSumT K vs H Q) := fun P G H Γ s σ Q xs vs E0 Qr F hx h hq => by
  have sub := F.wf.gh
  match xs, h with
  | [.lst ds], h =>
    obtain ⟨v, rfl, hv⟩ := hx.one
    obtain ⟨a, ys, rfl, ha, r⟩ := hv.lst sub
    obtain ⟨ns, e, h⟩ := opt_run h
    rw [r.intsOf e] at ha
    exact .inl ⟨a, ns, rfl, SqL.of ha, (hq _ h).dat F (.int _)⟩
  | [.tup ds], h =>
    obtain ⟨v, rfl, hv⟩ := hx.one
    obtain ⟨a, ys, rfl, ha, r⟩ := hv.tup sub
    obtain ⟨ns, e, h⟩ := opt_run h
    rw [r.intsOf e] at ha
    exact .inr ⟨a, ns, rfl, ha.sq, (hq _ h).dat F (.int _)⟩
end
/-! ### min of a list of data -/
theorem valsBack : ∀ {xs : List V} {us : List Value} {i : Nat} {u : Value}, Vals xs us → us[i]? = some u → ∃ x, xs[i]? = some x ∧ RelV x u
  | _, _, _, _, .nil, e => by simp at e
  | _ :: _, _ :: _, 0, _, .cons r _, e => by cases e; exact ⟨_, rfl, r⟩
  | _ :: _, _ :: _, i + 1, _, .cons _ t, e => by
    obtain ⟨x, h1, h2⟩ := valsBack (i := i) t (by simpa using e)
    exact ⟨x, by simpa using h1, h2⟩
def rMinP (K : PySem.W.Frag) : List V → Hp → VK → Prop := fun vs H Q => ∃ (a : Addr) (ys : List V) (d : PyData) (ds : List PyData), vs = [V.ref a] ∧ SqL K H a ys ∧ DpAll K H ys (d :: ds) ∧ PySem.W.AlikeAll (d :: ds) ∧ PyData.depthAll (d :: ds) ≤ 60 ∧
  ∀ (i : Nat) (y : V), ys[i]? = some y → (d :: ds)[i]? = some (PySem.W.minD d ds) → Q y H
theorem cr_minP {X : Cx} (hc : X.calm = true) (hu : X.A.units + 64 < cLine) : CallR X (.builtin "min") (rMinP X.K) := by
  intro pins s σ H vs us Q I r h
  obtain ⟨a, ys, d, ds, rfl, hs, hd, hal, hz, q⟩ := h
  obtain ⟨its, rv, hl, _⟩ := I.list hs
  obtain ⟨as, hr⟩ := Dp.readsAll I (d :: ds) ys its hd rv
  rw [Vals.ref1 r]
  refine PySem.W.min_list_data (vs := its.toArray) (I.ok.hd hc) hl.isList (by simpa using hr) hal (by omega) fun i v h' tk bs hv hr' hk => ?_
  obtain ⟨cs, r1, h1, _⟩ := PySem.W.readsAll_at (h := s.heap) (vs := its) (by simpa using hr) i v (by simpa using hv)
  have eq := (PySem.Reads.unique (PySem.W.reads_keeps hk r1) _ _ hr').1
  obtain ⟨y, hy, ry⟩ := valsBack rv (by simpa using hv)
  refine ⟨y, H, I.kept hk, ry, q i y hy ?_⟩
  rw [← eq, List.getD_eq_getElem?_getD, List.getElem?_eq_getElem h1]; rfl
section
variable {S : Type} {X : Cx} {T : Nat → Option Addr} {W : Wd S} {K : PySem.W.Frag}
def opMinP : List D → M S Rv
  | [.lst (d :: ds)] => .need (flats (d :: ds) = true ∧ PySem.W.AlikeAll (toPs (d :: ds)) ∧ PyData.depthAll (toPs (d :: ds)) ≤ 60) ((M.some fun e : D => e ∈ d :: ds ∧ e.toP = PySem.W.minD d.toP (toPs ds)).bind fun e => .pure (.dat e))
  | _ => .fail
theorem minP_ok : OpOk K T W (opMinP (S := S)) (rMinP K) := fun P G H Γ s σ Q xs vs E0 Qr F hx h hq => by
  have sub := F.wf.gh
  match xs, h with
  | [.lst (d :: ds)], h =>
    obtain ⟨v, rfl, hv⟩ := hx.one
    obtain ⟨a, ys, rfl, ha, r⟩ := hv.lst sub
    obtain ⟨⟨f1, f2, f3⟩, h⟩ := h
    have hd := DRs.dp sub r f1
    have et : toPs (d :: ds) = d.toP :: toPs ds := by rw [toPs]
    rw [et] at hd f2 f3
    refine ⟨a, ys, d.toP, toPs ds, rfl, SqL.of ha, hd, f2, f3, fun i y hy he => ?_⟩
    obtain ⟨e, h1, h2⟩ := r.getV hy
    have h3 : (toPs (d :: ds))[i]? = some (PySem.W.minD d.toP (toPs ds)) := by rw [et]; exact he
    rw [toPs_map, List.getElem?_map, h1] at h3
    exact (hq _ (h e ⟨List.mem_of_getElem? h1, Option.some.inj h3⟩)).dat F h2
/-- min: of ints, else of data -/
def opMin2 : List D → M S Rv
  | [.lst (.tup a :: ds)] => opMinP [.lst (.tup a :: ds)]
  | [.lst ds] => opMin [.lst ds]
  | _ => .fail
theorem min2_ok : OpOk K T W (opMin2 (S := S)) (fun vs H Q => rMin K vs H Q ∨ rMinP K vs H Q) := fun P G H Γ s σ Q xs vs E0 Qr F hx h hq => by
  unfold opMin2 at h
  split at h
  · exact .inr (minP_ok P G H Γ s σ Q _ vs E0 Qr F hx h hq)
  · exact .inl (min_ok P G H Γ s σ Q _ vs E0 Qr F hx h hq)
  · exact h.elim
end
end Ev
/-! from K15.lean -/
set_option maxRecDepth 100000
set_option maxHeartbeats 4000000
/-! What each def of the law computes, and that it does. Printed by gen.py. -/
namespace K15
open PySem PySem.Spec PyProof.Rows L2 Ev
def top (i : Nat) : Stmt := PySem.Challenge.pw_threesfit_k15_first_rows_of_heaps.main.body.getD i (.Pass ⟨0, 0, 0, 0⟩)
def dkk : DKeys := ⟨"cells", "mixed", "draws", by decide +kernel, by decide +kernel, by decide +kernel⟩
structure Free (mg : Str → Option Value) : Prop where
  b_all : mg "all" = none
  b_bool : mg "bool" = none
  b_enumerate : mg "enumerate" = none
  b_int : mg "int" = none
  b_isinstance : mg "isinstance" = none
  b_len : mg "len" = none
  b_list : mg "list" = none
  b_max : mg "max" = none
  b_min : mg "min" = none
  b_range : mg "range" = none
  b_repr : mg "repr" = none
  b_sum : mg "sum" = none
  b_tuple : mg "tuple" = none
  c_MOST_KINDS : ∃ t, mg "MOST_KINDS" = some (.int 8 t)
  i_factorial : mg "factorial" = some (.builtin "math.factorial")
def t_FAULTS : List (Str × D) := [("left", .fn 0), ("right", .fn 1), ("three", .fn 2)]
structure Tab_FAULTS (K : PySem.W.Frag) (w : World) (mg : Str → Option Value) (T : Nat → Option Addr) (d : Addr) (des : Array DictEntry) (dn : Nat) : Prop where
  kd : KDict K w d des dn
  mg : mg "FAULTS" = some (.ref d)
  vals : ∀ z dd, t_FAULTS.lookup z = some dd → ∃ u v, PySem.W.nsIn K d z = some (some u) ∧ RelV v u ∧ CD K T v dd
/-! ### _law_deck -/
abbrev s__law_deck : Stmt := top 46
abbrev N__law_deck : List Str := ["script", "mixed", "cell"]
abbrev P__law_deck : List Str := ["script"]
theorem sc__law_deck : FnScope N__law_deck P__law_deck (defScope s__law_deck) := ⟨rfl, rfl, rfl, by decide +kernel, rfl, by decide +kernel, by decide +kernel⟩
def b__law_deck : TSv SD :=
 (cCons (cSet 1 (eK (.int 10882015)))
 (cCons (cFor (.name 2) (wIt (eSlc (eVar 0) oNone (oSome (eK (.int 63))))) (cCons (cSet 1 (eBin .mod (eBi .int1 (sCons (eBin .add (eBin .add (eBin .mul (eVar 1) (eK (.int 48271))) (eBin .mod (eBi .int1 (sCons (eVar 2) sNil)) (eK (.int 2147483629)))) (eK (.int 77))) sNil)) (eK (.int 2147483587))))
 cNil))
 (cCons (cRet (eDkNew (eRevS (eBi .list (sCons (eSlc (eVar 0) oNone (oSome (eK (.int 63)))) sNil))) (eVar 1) (eK (.int 0))))
 cNil)))
def F__law_deck : List D → M SD D := runD 3 b__law_deck
theorem d__law_deck {prog : Program} {w : World} {K : PySem.W.Frag} {mg : Str → Option Value} {base : Heap} {T : Nat → Option Addr} {tb : Addr → Prop} (B : Free mg) 
    {cdv : Value} {a : Addr} {A : Around} {outer : List Env} {s : Shared} {H : Hp} {E : XK} (hr : Room 0 (A.deeper (envOfC "_law_deck" (defScope s__law_deck) s.heap.objs.size a (cdv)))) (hg : (A.deeper (envOfC "_law_deck" (defScope s__law_deck) s.heap.objs.size a (cdv))).guards = some []) :
    DSs (cxOf Ev.CX0 prog w K mg base N__law_deck "_law_deck" (defScope s__law_deck) a (cdv) A outer s H E) T (Wdk dkk tb) (defBody s__law_deck) b__law_deck :=
 (ds_cons (set_ 1 sc__law_deck.nd de_int)
 (ds_cons (ds_for own_cx rfl (di_it (de_slc (v_ 0) do_none (do_some de_int))) (g_ 2 sc__law_deck.nd) (ds_cons (set_ 1 sc__law_deck.nd (de_bin .mod (de_biT .int1 (room_u hr) hg rfl rfl B.b_int (by kernel_rfl) rfl (da_cons (de_bin .add (de_bin .add (de_bin .mul (v_ 1) de_int) (de_bin .mod (de_biT .int1 (room_u hr) hg rfl rfl B.b_int (by kernel_rfl) rfl (da_cons (v_ 2) da_nil)) de_int)) de_int) da_nil)) de_int))
 ds_nil))
 (ds_cons (ds_ret (de_dkNew (k := dkk) (de_revS (de_biT .list (room_u hr) hg rfl rfl B.b_list (by kernel_rfl) rfl (da_cons (de_slc (v_ 0) do_none (do_some de_int)) da_nil))) (v_ 1) de_int))
 ds_nil)))
/-! ### _law_draw -/
abbrev s__law_draw : Stmt := top 47
abbrev N__law_draw : List Str := ["deck", "many", "number", "cell"]
abbrev P__law_draw : List Str := ["deck", "many"]
theorem sc__law_draw : FnScope N__law_draw P__law_draw (defScope s__law_draw) := ⟨rfl, rfl, rfl, by decide +kernel, rfl, by decide +kernel, by decide +kernel⟩
def b__law_draw : TSv SD :=
 (cCons (cDk 0 true (eBin .add (eDk 0 true) (eK (.int 1))))
 (cCons (cSet 2 (eBin .add (eDk 0 false) (eBin .mul (eK (.int 61473)) (eDk 0 true))))
 (cCons (cIf (qDk 0) (cCons (cSet 3 (eDkPop 0))
 (cCons (cIf (qVal (eCmp .ge (eVar 3) (eBin .pow (eK (.int 10)) (eK (.int 18))))) (cCons (cDrop (eDkApp 0 (eBin .fdiv (eVar 3) (eBi .max2 (sCons (eK (.int 2)) (sCons (eVar 1) sNil))))))
 (cCons (cRet (eBin .mod (eBi .int1 (sCons (eVar 3) sNil)) (eVar 1)))
 cNil)) cNil)
 (cCons (cSet 2 (eBin .add (eVar 2) (eBin .mod (eBi .int1 (sCons (eVar 3) sNil)) (eK (.int 2147483629)))))
 cNil))) cNil)
 (cCons (cSet 2 (eBin .mod (eBi .int1 (sCons (eBin .add (eBin .mul (eVar 2) (eK (.int 69621))) (eK (.int 77))) sNil)) (eK (.int 2147483647))))
 (cCons (cSet 2 (eBin .mod (eBi .int1 (sCons (eBin .add (eBin .add (eBin .mul (eVar 2) (eVar 2)) (eBin .mul (eK (.int 52709)) (eDk 0 true))) (eK (.int 41))) sNil)) (eK (.int 2147483587))))
 (cCons (cSet 2 (eBin .mod (eBi .int1 (sCons (eBin .mul (eVar 2) (eK (.int 39373))) sNil)) (eK (.int 2147483563))))
 (cCons (cRet (eBin .mod (eBi .int1 (sCons (eBin .fdiv (eVar 2) (eK (.int 64))) sNil)) (eVar 1)))
 cNil)))))))
def F__law_draw : List D → M SD D := runD 4 b__law_draw
theorem d__law_draw {prog : Program} {w : World} {K : PySem.W.Frag} {mg : Str → Option Value} {base : Heap} {T : Nat → Option Addr} {tb : Addr → Prop} (B : Free mg) 
    {cdv : Value} {a : Addr} {A : Around} {outer : List Env} {s : Shared} {H : Hp} {E : XK} (hr : Room 0 (A.deeper (envOfC "_law_draw" (defScope s__law_draw) s.heap.objs.size a (cdv)))) (hg : (A.deeper (envOfC "_law_draw" (defScope s__law_draw) s.heap.objs.size a (cdv))).guards = some []) :
    DSs (cxOf Ev.CX0 prog w K mg base N__law_draw "_law_draw" (defScope s__law_draw) a (cdv) A outer s H E) T (Wdk dkk tb) (defBody s__law_draw) b__law_draw :=
 (ds_cons (ds_dk (k := dkk) true (room_u hr) (i := 0) rfl (by first | exact .inl rfl | exact .inr (.inl rfl) | exact .inr (.inr rfl)) (de_bin .add (de_dk (k := dkk) true (room_u hr) (i := 0) rfl (by first | exact .inl rfl | exact .inr (.inl rfl) | exact .inr (.inr rfl)) (fun _ _ => rfl)) de_int))
 (ds_cons (set_ 2 sc__law_draw.nd (de_bin .add (de_dk (k := dkk) false (room_u hr) (i := 0) rfl (by first | exact .inl rfl | exact .inr (.inl rfl) | exact .inr (.inr rfl)) (fun _ _ => rfl)) (de_bin .mul de_int (de_dk (k := dkk) true (room_u hr) (i := 0) rfl (by first | exact .inl rfl | exact .inr (.inl rfl) | exact .inr (.inr rfl)) (fun _ _ => rfl)))))
 (ds_cons (ds_if (dt_dk (k := dkk) (j' := 0) (room_u hr) (i := 0) rfl (by first | exact .inl rfl | exact .inr (.inl rfl) | exact .inr (.inr rfl)) (fun _ _ => rfl)) (ds_cons (set_ 3 sc__law_draw.nd (de_dkPop (k := dkk) (room_u hr) (i := 0) rfl (by first | exact .inl rfl | exact .inr (.inl rfl) | exact .inr (.inr rfl)) (fun _ _ => rfl)))
 (ds_cons (ds_if (dt_cmp .ge (room_u hr) (v_ 3) (de_bin .pow de_int de_int) rfl) (ds_cons (ds_drop (de_dkApp (k := dkk) (room_u hr) (i := 0) rfl (by first | exact .inl rfl | exact .inr (.inl rfl) | exact .inr (.inr rfl)) (fun _ _ => rfl) (de_bin .fdiv (v_ 3) (de_biF .max2 (room_u hr) hg rfl rfl B.b_max (by kernel_rfl) rfl (da_cons de_int (da_cons (v_ 1) da_nil))))))
 (ds_cons (ds_ret (de_bin .mod (de_biT .int1 (room_u hr) hg rfl rfl B.b_int (by kernel_rfl) rfl (da_cons (v_ 3) da_nil)) (v_ 1)))
 ds_nil)) ds_nil)
 (ds_cons (set_ 2 sc__law_draw.nd (de_bin .add (v_ 2) (de_bin .mod (de_biT .int1 (room_u hr) hg rfl rfl B.b_int (by kernel_rfl) rfl (da_cons (v_ 3) da_nil)) de_int)))
 ds_nil))) ds_nil)
 (ds_cons (set_ 2 sc__law_draw.nd (de_bin .mod (de_biT .int1 (room_u hr) hg rfl rfl B.b_int (by kernel_rfl) rfl (da_cons (de_bin .add (de_bin .mul (v_ 2) de_int) de_int) da_nil)) de_int))
 (ds_cons (set_ 2 sc__law_draw.nd (de_bin .mod (de_biT .int1 (room_u hr) hg rfl rfl B.b_int (by kernel_rfl) rfl (da_cons (de_bin .add (de_bin .add (de_bin .mul (v_ 2) (v_ 2)) (de_bin .mul de_int (de_dk (k := dkk) true (room_u hr) (i := 0) rfl (by first | exact .inl rfl | exact .inr (.inl rfl) | exact .inr (.inr rfl)) (fun _ _ => rfl)))) de_int) da_nil)) de_int))
 (ds_cons (set_ 2 sc__law_draw.nd (de_bin .mod (de_biT .int1 (room_u hr) hg rfl rfl B.b_int (by kernel_rfl) rfl (da_cons (de_bin .mul (v_ 2) de_int) da_nil)) de_int))
 (ds_cons (ds_ret (de_bin .mod (de_biT .int1 (room_u hr) hg rfl rfl B.b_int (by kernel_rfl) rfl (da_cons (de_bin .fdiv (v_ 2) de_int) da_nil)) (v_ 1)))
 ds_nil)))))))
/-! ### _law_shuffled -/
abbrev s__law_shuffled : Stmt := top 49
abbrev N__law_shuffled : List Str := ["deck", "n", "left", "found", "turn"]
abbrev P__law_shuffled : List Str := ["deck", "n"]
theorem sc__law_shuffled : FnScope N__law_shuffled P__law_shuffled (defScope s__law_shuffled) := ⟨rfl, rfl, rfl, by decide +kernel, rfl, by decide +kernel, by decide +kernel⟩
def b__law_shuffled : TSv SD :=
 (cCons (cPar 2 3 (eBi .list (sCons (eBi .range1 (sCons (eVar 1) sNil)) sNil)) (eLst sNil))
 (cCons (cFor (.name 4) (wR1 (eVar 1)) (cCons (cDrop (eApp 3 (ePopAt 2 (eCall F__law_draw (sCons (eVar 0) (sCons (eBi .len (sCons (eVar 2) sNil)) sNil))))))
 cNil))
 (cCons (cRet (eBi .tuple (sCons (eVar 3) sNil)))
 cNil)))
def F__law_shuffled : List D → M SD D := runD 5 b__law_shuffled
theorem d__law_shuffled {prog : Program} {w : World} {K : PySem.W.Frag} {mg : Str → Option Value} {base : Heap} {T : Nat → Option Addr} {tb : Addr → Prop} (B : Free mg) (H__law_draw : Known prog w K mg base T (Wdk dkk tb) 1 "_law_draw" 2 F__law_draw)
    {cdv : Value} {a : Addr} {A : Around} {outer : List Env} {s : Shared} {H : Hp} {E : XK} (hr : Room 1 (A.deeper (envOfC "_law_shuffled" (defScope s__law_shuffled) s.heap.objs.size a (cdv)))) (hg : (A.deeper (envOfC "_law_shuffled" (defScope s__law_shuffled) s.heap.objs.size a (cdv))).guards = some []) :
    DSs (cxOf Ev.CX0 prog w K mg base N__law_shuffled "_law_shuffled" (defScope s__law_shuffled) a (cdv) A outer s H E) T (Wdk dkk tb) (defBody s__law_shuffled) b__law_shuffled :=
 (ds_cons (ds_par (i := 2) (j := 3) rfl sc__law_shuffled.nd rfl rfl (by decide) rfl rfl (de_biT .list (room_u hr) hg rfl rfl B.b_list (by kernel_rfl) rfl (da_cons (de_biT .range1 (room_u hr) hg rfl rfl B.b_range (by kernel_rfl) rfl (da_cons (v_ 1) da_nil)) da_nil)) (de_lst da_nil) rfl)
 (ds_cons (ds_for own_cx rfl (di_r1 rfl B.b_range (v_ 1)) (g_ 4 sc__law_shuffled.nd) (ds_cons (ds_drop (de_app (i := 3) rfl (by first | exact .inl rfl | exact .inr (.inl rfl) | exact .inr (.inr rfl)) (de_popAt (i := 2) rfl (by first | exact .inl rfl | exact .inr (.inl rfl) | exact .inr (.inr rfl)) (de_call hg (H__law_draw.to hr) rfl (da_cons (v_ 0) (da_cons (de_biF .len (room_u hr) hg rfl rfl B.b_len (by kernel_rfl) rfl (da_cons (v_ 2) da_nil)) da_nil)) (lenC (lenC lenN))))))
 ds_nil))
 (ds_cons (ds_ret (de_biT .tuple (room_u hr) hg rfl rfl B.b_tuple (by kernel_rfl) rfl (da_cons (v_ 3) da_nil)))
 ds_nil)))
/-! ### _law_base -/
abbrev s__law_base : Stmt := top 50
abbrev N__law_base : List Str := ["deck", "n", "way", "turn", "x", "unit", "y", "some", "lot", "steps", "found", "turned", "near", "at", "z"]
abbrev P__law_base : List Str := ["deck", "n"]
theorem sc__law_base : FnScope N__law_base P__law_base (defScope s__law_base) := ⟨rfl, rfl, rfl, by decide +kernel, rfl, by decide +kernel, by decide +kernel⟩
def b__law_base : TSv SD :=
 (cCons (cPar 2 3 (eCall F__law_draw (sCons (eVar 0) (sCons (eK (.int 6)) sNil))) (eCall F__law_shuffled (sCons (eVar 0) (sCons (eVar 1) sNil))))
 (cCons (cIf (qVal (eCmp .eq (eVar 2) (eK (.int 0)))) (cCons (cRet (eLc [4] (.name 4) (wR1 (eVar 1)) qYes (eVar 3)))
 cNil) cNil)
 (cCons (cIf (qAnd (qVal (eCmp .eq (eVar 2) (eK (.int 1)))) (qVal (eCmp .mem (eVar 1) (eTup (sCons (eK (.int 4)) (sCons (eK (.int 6)) (sCons (eK (.int 8)) sNil))))))) (cCons (cSet 5 (eIf (qVal (eCmp .lt (eVar 1) (eK (.int 8)))) (eBin .sub (eVar 1) (eK (.int 1))) (eBin .add (eK (.int 3)) (eBin .mul (eK (.int 2)) (eCall F__law_draw (sCons (eVar 0) (sCons (eK (.int 3)) sNil)))))))
 (cCons (cRet (eLc [4] (.name 4) (wR1 (eVar 1)) qYes (eBi .tuple (sCons (eLc [6] (.name 6) (wR1 (eVar 1)) qYes (eIf (qVal (eCmp .eq (eBin .mod (eBi .int1 (sCons (eVar 4) sNil)) (eK (.int 2))) (eK (.int 1)))) (eBin .mod (eBi .int1 (sCons (eBin .mul (eVar 5) (eVar 6)) sNil)) (eVar 1)) (eVar 6))) sNil))))
 cNil)) cNil)
 (cCons (cIf (qAnd (qVal (eCmp .eq (eVar 2) (eK (.int 2)))) (qVal (eCmp .eq (eVar 1) (eK (.int 4))))) (cCons (cSet 7 (eLst (sCons (eLst (sCons (eTup (sCons (eK (.int 0)) (sCons (eK (.int 1)) (sCons (eK (.int 3)) (sCons (eK (.int 2)) sNil))))) (sCons (eTup (sCons (eK (.int 2)) (sCons (eK (.int 3)) (sCons (eK (.int 1)) (sCons (eK (.int 0)) sNil))))) (sCons (eTup (sCons (eK (.int 3)) (sCons (eK (.int 2)) (sCons (eK (.int 0)) (sCons (eK (.int 1)) sNil))))) (sCons (eTup (sCons (eK (.int 1)) (sCons (eK (.int 0)) (sCons (eK (.int 2)) (sCons (eK (.int 3)) sNil))))) sNil))))) sNil)))
 (cCons (cDrop (eApp 7 (eLst (sCons (eTup (sCons (eK (.int 1)) (sCons (eK (.int 0)) (sCons (eK (.int 2)) (sCons (eK (.int 3)) sNil))))) (sCons (eTup (sCons (eK (.int 3)) (sCons (eK (.int 2)) (sCons (eK (.int 0)) (sCons (eK (.int 1)) sNil))))) (sCons (eTup (sCons (eK (.int 2)) (sCons (eK (.int 3)) (sCons (eK (.int 1)) (sCons (eK (.int 0)) sNil))))) (sCons (eTup (sCons (eK (.int 0)) (sCons (eK (.int 1)) (sCons (eK (.int 3)) (sCons (eK (.int 2)) sNil))))) sNil)))))))
 (cCons (cDrop (eApp 7 (eLst (sCons (eTup (sCons (eK (.int 0)) (sCons (eK (.int 1)) (sCons (eK (.int 2)) (sCons (eK (.int 3)) sNil))))) (sCons (eTup (sCons (eK (.int 0)) (sCons (eK (.int 1)) (sCons (eK (.int 2)) (sCons (eK (.int 3)) sNil))))) (sCons (eTup (sCons (eK (.int 0)) (sCons (eK (.int 1)) (sCons (eK (.int 3)) (sCons (eK (.int 2)) sNil))))) (sCons (eTup (sCons (eK (.int 1)) (sCons (eK (.int 0)) (sCons (eK (.int 3)) (sCons (eK (.int 2)) sNil))))) sNil)))))))
 (cCons (cDrop (eApp 7 (eLst (sCons (eTup (sCons (eK (.int 1)) (sCons (eK (.int 0)) (sCons (eK (.int 2)) (sCons (eK (.int 3)) sNil))))) (sCons (eTup (sCons (eK (.int 1)) (sCons (eK (.int 0)) (sCons (eK (.int 2)) (sCons (eK (.int 3)) sNil))))) (sCons (eTup (sCons (eK (.int 0)) (sCons (eK (.int 1)) (sCons (eK (.int 3)) (sCons (eK (.int 2)) sNil))))) (sCons (eTup (sCons (eK (.int 1)) (sCons (eK (.int 0)) (sCons (eK (.int 3)) (sCons (eK (.int 2)) sNil))))) sNil)))))))
 (cCons (cDrop (eApp 7 (eLst (sCons (eTup (sCons (eK (.int 1)) (sCons (eK (.int 0)) (sCons (eK (.int 3)) (sCons (eK (.int 2)) sNil))))) (sCons (eTup (sCons (eK (.int 2)) (sCons (eK (.int 3)) (sCons (eK (.int 0)) (sCons (eK (.int 1)) sNil))))) (sCons (eTup (sCons (eK (.int 2)) (sCons (eK (.int 3)) (sCons (eK (.int 0)) (sCons (eK (.int 1)) sNil))))) (sCons (eTup (sCons (eK (.int 1)) (sCons (eK (.int 0)) (sCons (eK (.int 3)) (sCons (eK (.int 2)) sNil))))) sNil)))))))
 (cCons (cDrop (eApp 7 (eLst (sCons (eTup (sCons (eK (.int 3)) (sCons (eK (.int 0)) (sCons (eK (.int 1)) (sCons (eK (.int 2)) sNil))))) (sCons (eTup (sCons (eK (.int 1)) (sCons (eK (.int 2)) (sCons (eK (.int 3)) (sCons (eK (.int 0)) sNil))))) (sCons (eTup (sCons (eK (.int 3)) (sCons (eK (.int 0)) (sCons (eK (.int 1)) (sCons (eK (.int 2)) sNil))))) (sCons (eTup (sCons (eK (.int 1)) (sCons (eK (.int 2)) (sCons (eK (.int 3)) (sCons (eK (.int 0)) sNil))))) sNil)))))))
 (cCons (cRet (eIdx (eVar 7) (eCall F__law_draw (sCons (eVar 0) (sCons (eBi .len (sCons (eVar 7) sNil)) sNil)))))
 cNil))))))) cNil)
 (cCons (cPar3 8 9 10 (eLc [4] (.name 4) (wR1 (eVar 1)) qYes (eCall F__law_draw (sCons (eVar 0) (sCons (eK (.int 3)) sNil)))) (eLc [13] (.name 13) (wR1 (eK (.int 9))) qYes (eCall F__law_draw (sCons (eVar 0) (sCons (eK (.int 8)) sNil)))) (eLst sNil))
 (cCons (cFor (.name 4) (wR1 (eVar 1)) (cCons (cSet 11 (eLst sNil))
 (cCons (cFor (.name 6) (wR1 (eVar 1)) (cCons (cSet 12 (eLc [14] (.name 14) (wR1 (eVar 1)) (qVal (eCmp .eq (eIdx (eVar 8) (eVar 14)) (eIdx (eVar 8) (eVar 6)))) (eVar 14)))
 (cCons (cDrop (eApp 11 (eIdx (eVar 12) (eBin .mod (eBi .int1 (sCons (eBin .add (eMeth .index (eVar 12) (eVar 6)) (eIdx (eVar 9) (eBin .add (eBin .mul (eK (.int 3)) (eIdx (eVar 8) (eVar 4))) (eIdx (eVar 8) (eVar 6))))) sNil)) (eBi .len (sCons (eVar 12) sNil))))))
 cNil)))
 (cCons (cDrop (eApp 10 (eBi .tuple (sCons (eVar 11) sNil))))
 cNil))))
 (cCons (cRet (eVar 10))
 cNil)))))))
def F__law_base : List D → M SD D := runD 15 b__law_base
theorem d__law_base {prog : Program} {w : World} {K : PySem.W.Frag} {mg : Str → Option Value} {base : Heap} {T : Nat → Option Addr} {tb : Addr → Prop} (B : Free mg) (H__law_draw : Known prog w K mg base T (Wdk dkk tb) 1 "_law_draw" 2 F__law_draw) (H__law_shuffled : Known prog w K mg base T (Wdk dkk tb) 2 "_law_shuffled" 2 F__law_shuffled)
    {cdv : Value} {a : Addr} {A : Around} {outer : List Env} {s : Shared} {H : Hp} {E : XK} (hr : Room 2 (A.deeper (envOfC "_law_base" (defScope s__law_base) s.heap.objs.size a (cdv)))) (hg : (A.deeper (envOfC "_law_base" (defScope s__law_base) s.heap.objs.size a (cdv))).guards = some []) :
    DSs (cxOf Ev.CX0 prog w K mg base N__law_base "_law_base" (defScope s__law_base) a (cdv) A outer s H E) T (Wdk dkk tb) (defBody s__law_base) b__law_base :=
 (ds_cons (ds_parU (i := 2) (j := 3) rfl sc__law_base.nd rfl rfl (by decide) (by first | exact .inl rfl | exact .inr rfl) (by first | exact .inl rfl | exact .inr rfl) (by first | exact .inl rfl | exact .inr rfl) (by first | exact .inl rfl | exact .inr rfl) (de_call hg (H__law_draw.to hr) rfl (da_cons (v_ 0) (da_cons de_int da_nil)) (lenC (lenC lenN))) (de_call hg (H__law_shuffled.to hr) rfl (da_cons (v_ 0) (da_cons (v_ 1) da_nil)) (lenC (lenC lenN))))
 (ds_cons (ds_if (dt_cmp .eq (room_u hr) (v_ 2) de_int rfl) (ds_cons (ds_ret (de_lc (own := [("x", 4)]) rfl sc__law_base.nd (di_r1 rfl B.b_range (v_ 1)) (blkOk_by (own := [("x", 4)]) (by kernel_rfl)) (g := (.name 4)) (by decide) (fun _ _ _ _ _ => (g_ 4 sc__law_base.nd)) (fun _ _ _ _ _ => dts_nil) (fun _ _ _ _ _ => (v_ 3))))
 ds_nil) ds_nil)
 (ds_cons (ds_if (dt_w (dw_and (dt_cmp .eq (room_u hr) (v_ 2) de_int rfl) (dw_and1 (dt_cmp .mem (room_u hr) (v_ 1) (de_tup (da_cons de_int (da_cons de_int (da_cons de_int da_nil)))) rfl)))) (ds_cons (set_ 5 sc__law_base.nd (de_if (dt_cmp .lt (room_u hr) (v_ 1) de_int rfl) (de_bin .sub (v_ 1) de_int) (de_bin .add de_int (de_bin .mul de_int (de_call hg (H__law_draw.to hr) rfl (da_cons (v_ 0) (da_cons de_int da_nil)) (lenC (lenC lenN)))))))
 (ds_cons (ds_ret (de_lc (own := [("x", 4)]) rfl sc__law_base.nd (di_r1 rfl B.b_range (v_ 1)) (blkOk_by (own := [("x", 4)]) (by kernel_rfl)) (g := (.name 4)) (by decide) (fun _ _ _ _ _ => (g_ 4 sc__law_base.nd)) (fun _ _ _ _ _ => dts_nil) (fun _ _ _ _ _ => (de_biT .tuple (room_u hr) hg rfl rfl B.b_tuple (by kernel_rfl) rfl (da_cons (de_lc (own := [("y", 6)]) rfl sc__law_base.nd (di_r1 rfl B.b_range (v_ 1)) (blkOk_by (own := [("y", 6)]) (by kernel_rfl)) (g := (.name 6)) (by decide) (fun _ _ _ _ _ => (g_ 6 sc__law_base.nd)) (fun _ _ _ _ _ => dts_nil) (fun _ _ _ _ _ => (de_if (dt_cmp .eq (room_u hr) (de_bin .mod (de_biT .int1 (room_u hr) hg rfl rfl B.b_int (by kernel_rfl) rfl (da_cons (v_ 4) da_nil)) de_int) de_int rfl) (de_bin .mod (de_biT .int1 (room_u hr) hg rfl rfl B.b_int (by kernel_rfl) rfl (da_cons (de_bin .mul (v_ 5) (v_ 6)) da_nil)) (v_ 1)) (v_ 6)))) da_nil)))))
 ds_nil)) ds_nil)
 (ds_cons (ds_if (dt_w (dw_and (dt_cmp .eq (room_u hr) (v_ 2) de_int rfl) (dw_and1 (dt_cmp .eq (room_u hr) (v_ 1) de_int rfl)))) (ds_cons (set_ 7 sc__law_base.nd (de_lst (da_cons (de_lst (da_cons (de_tup (da_cons de_int (da_cons de_int (da_cons de_int (da_cons de_int da_nil))))) (da_cons (de_tup (da_cons de_int (da_cons de_int (da_cons de_int (da_cons de_int da_nil))))) (da_cons (de_tup (da_cons de_int (da_cons de_int (da_cons de_int (da_cons de_int da_nil))))) (da_cons (de_tup (da_cons de_int (da_cons de_int (da_cons de_int (da_cons de_int da_nil))))) da_nil))))) da_nil)))
 (ds_cons (ds_drop (de_app (i := 7) rfl (by first | exact .inl rfl | exact .inr (.inl rfl) | exact .inr (.inr rfl)) (de_lst (da_cons (de_tup (da_cons de_int (da_cons de_int (da_cons de_int (da_cons de_int da_nil))))) (da_cons (de_tup (da_cons de_int (da_cons de_int (da_cons de_int (da_cons de_int da_nil))))) (da_cons (de_tup (da_cons de_int (da_cons de_int (da_cons de_int (da_cons de_int da_nil))))) (da_cons (de_tup (da_cons de_int (da_cons de_int (da_cons de_int (da_cons de_int da_nil))))) da_nil)))))))
 (ds_cons (ds_drop (de_app (i := 7) rfl (by first | exact .inl rfl | exact .inr (.inl rfl) | exact .inr (.inr rfl)) (de_lst (da_cons (de_tup (da_cons de_int (da_cons de_int (da_cons de_int (da_cons de_int da_nil))))) (da_cons (de_tup (da_cons de_int (da_cons de_int (da_cons de_int (da_cons de_int da_nil))))) (da_cons (de_tup (da_cons de_int (da_cons de_int (da_cons de_int (da_cons de_int da_nil))))) (da_cons (de_tup (da_cons de_int (da_cons de_int (da_cons de_int (da_cons de_int da_nil))))) da_nil)))))))
 (ds_cons (ds_drop (de_app (i := 7) rfl (by first | exact .inl rfl | exact .inr (.inl rfl) | exact .inr (.inr rfl)) (de_lst (da_cons (de_tup (da_cons de_int (da_cons de_int (da_cons de_int (da_cons de_int da_nil))))) (da_cons (de_tup (da_cons de_int (da_cons de_int (da_cons de_int (da_cons de_int da_nil))))) (da_cons (de_tup (da_cons de_int (da_cons de_int (da_cons de_int (da_cons de_int da_nil))))) (da_cons (de_tup (da_cons de_int (da_cons de_int (da_cons de_int (da_cons de_int da_nil))))) da_nil)))))))
 (ds_cons (ds_drop (de_app (i := 7) rfl (by first | exact .inl rfl | exact .inr (.inl rfl) | exact .inr (.inr rfl)) (de_lst (da_cons (de_tup (da_cons de_int (da_cons de_int (da_cons de_int (da_cons de_int da_nil))))) (da_cons (de_tup (da_cons de_int (da_cons de_int (da_cons de_int (da_cons de_int da_nil))))) (da_cons (de_tup (da_cons de_int (da_cons de_int (da_cons de_int (da_cons de_int da_nil))))) (da_cons (de_tup (da_cons de_int (da_cons de_int (da_cons de_int (da_cons de_int da_nil))))) da_nil)))))))
 (ds_cons (ds_drop (de_app (i := 7) rfl (by first | exact .inl rfl | exact .inr (.inl rfl) | exact .inr (.inr rfl)) (de_lst (da_cons (de_tup (da_cons de_int (da_cons de_int (da_cons de_int (da_cons de_int da_nil))))) (da_cons (de_tup (da_cons de_int (da_cons de_int (da_cons de_int (da_cons de_int da_nil))))) (da_cons (de_tup (da_cons de_int (da_cons de_int (da_cons de_int (da_cons de_int da_nil))))) (da_cons (de_tup (da_cons de_int (da_cons de_int (da_cons de_int (da_cons de_int da_nil))))) da_nil)))))))
 (ds_cons (ds_ret (de_idx (v_ 7) (de_call hg (H__law_draw.to hr) rfl (da_cons (v_ 0) (da_cons (de_biF .len (room_u hr) hg rfl rfl B.b_len (by kernel_rfl) rfl (da_cons (v_ 7) da_nil)) da_nil)) (lenC (lenC lenN))) (fun _ _ => rfl)))
 ds_nil))))))) ds_nil)
 (ds_cons (ds_par3U (i := 8) (j := 9) (l := 10) rfl sc__law_base.nd rfl rfl rfl (by decide) (by decide) (by decide) (by first | exact .inl rfl | exact .inr rfl) (by first | exact .inl rfl | exact .inr rfl) (by first | exact .inl rfl | exact .inr rfl) (by first | exact .inl rfl | exact .inr rfl) (by first | exact .inl rfl | exact .inr rfl) (by first | exact .inl rfl | exact .inr rfl) (de_lc (own := [("x", 4)]) rfl sc__law_base.nd (di_r1 rfl B.b_range (v_ 1)) (blkOk_by (own := [("x", 4)]) (by kernel_rfl)) (g := (.name 4)) (by decide) (fun _ _ _ _ _ => (g_ 4 sc__law_base.nd)) (fun _ _ _ _ _ => dts_nil) (fun _ _ _ _ _ => (de_call hg (H__law_draw.to hr) rfl (da_cons (v_ 0) (da_cons de_int da_nil)) (lenC (lenC lenN))))) (de_lc (own := [("at", 13)]) rfl sc__law_base.nd (di_r1 rfl B.b_range de_int) (blkOk_by (own := [("at", 13)]) (by kernel_rfl)) (g := (.name 13)) (by decide) (fun _ _ _ _ _ => (g_ 13 sc__law_base.nd)) (fun _ _ _ _ _ => dts_nil) (fun _ _ _ _ _ => (de_call hg (H__law_draw.to hr) rfl (da_cons (v_ 0) (da_cons de_int da_nil)) (lenC (lenC lenN))))) (de_lst da_nil))
 (ds_cons (ds_for own_cx rfl (di_r1 rfl B.b_range (v_ 1)) (g_ 4 sc__law_base.nd) (ds_cons (set_ 11 sc__law_base.nd (de_lst da_nil))
 (ds_cons (ds_for own_cx rfl (di_r1 rfl B.b_range (v_ 1)) (g_ 6 sc__law_base.nd) (ds_cons (ds_setLc (i := 12) (own := [("z", 14)]) rfl sc__law_base.nd rfl rfl (sw_true rfl rfl rfl (by decide +kernel)) (di_r1 rfl B.b_range (v_ 1)) (blkOk_by (own := [("z", 14)]) (by kernel_rfl)) (g := (.name 14)) (by decide) (fun _ _ _ _ _ => (g_ 14 sc__law_base.nd)) (fun _ _ _ _ _ => (dts_one (dt_cmp .eq (room_u hr) (de_idx (v_ 8) (v_ 14) (fun _ _ => rfl)) (de_idx (v_ 8) (v_ 6) (fun _ _ => rfl)) rfl))) (fun _ _ _ _ _ => (v_ 14)))
 (ds_cons (ds_drop (de_app (i := 11) rfl (by first | exact .inl rfl | exact .inr (.inl rfl) | exact .inr (.inr rfl)) (de_idx (v_ 12) (de_bin .mod (de_biT .int1 (room_u hr) hg rfl rfl B.b_int (by kernel_rfl) rfl (da_cons (de_bin .add (de_meth .index (room_u hr) F.slot_list_index F.type_list_index F.slot_tuple_index F.type_tuple_index (v_ 12) (v_ 6)) (de_idx (v_ 9) (de_bin .add (de_bin .mul de_int (de_idx (v_ 8) (v_ 4) (fun _ _ => rfl))) (de_idx (v_ 8) (v_ 6) (fun _ _ => rfl))) (fun _ _ => rfl))) da_nil)) (de_biF .len (room_u hr) hg rfl rfl B.b_len (by kernel_rfl) rfl (da_cons (v_ 12) da_nil))) (fun _ _ => rfl))))
 ds_nil)))
 (ds_cons (ds_drop (de_app (i := 10) rfl (by first | exact .inl rfl | exact .inr (.inl rfl) | exact .inr (.inr rfl)) (de_biT .tuple (room_u hr) hg rfl rfl B.b_tuple (by kernel_rfl) rfl (da_cons (v_ 11) da_nil))))
 ds_nil))))
 (ds_cons (ds_ret (v_ 10))
 ds_nil)))))))
/-! ### _law_crossed -/
abbrev s__law_crossed : Stmt := top 53
abbrev N__law_crossed : List Str := ["one", "other", "f", "g", "n", "found", "turn", "z"]
abbrev P__law_crossed : List Str := ["one", "other", "f", "g"]
theorem sc__law_crossed : FnScope N__law_crossed P__law_crossed (defScope s__law_crossed) := ⟨rfl, rfl, rfl, by decide +kernel, rfl, by decide +kernel, by decide +kernel⟩
def b__law_crossed : TSv SD :=
 (cCons (cSet 4 (eBi .len (sCons (eVar 0) sNil)))
 (cCons (cSet 5 (eLc [6] (.name 6) (wIt (eVar 0)) qYes (eBin .add (eVar 6) (eBi .tuple (sCons (eLc [7] (.name 7) (wIt (eVar 3)) qYes (eBin .add (eVar 4) (eVar 7))) sNil)))))
 (cCons (cRet (eBin .add (eVar 5) (eLc [6] (.name 6) (wIt (eVar 1)) qYes (eBin .add (eVar 2) (eBi .tuple (sCons (eLc [7] (.name 7) (wIt (eVar 6)) qYes (eBin .add (eVar 4) (eVar 7))) sNil))))))
 cNil)))
def F__law_crossed : List D → M SD D := runD 8 b__law_crossed
theorem d__law_crossed {prog : Program} {w : World} {K : PySem.W.Frag} {mg : Str → Option Value} {base : Heap} {T : Nat → Option Addr} {tb : Addr → Prop} (B : Free mg) 
    {cdv : Value} {a : Addr} {A : Around} {outer : List Env} {s : Shared} {H : Hp} {E : XK} (hr : Room 0 (A.deeper (envOfC "_law_crossed" (defScope s__law_crossed) s.heap.objs.size a (cdv)))) (hg : (A.deeper (envOfC "_law_crossed" (defScope s__law_crossed) s.heap.objs.size a (cdv))).guards = some []) :
    DSs (cxOf Ev.CX0 prog w K mg base N__law_crossed "_law_crossed" (defScope s__law_crossed) a (cdv) A outer s H E) T (Wdk dkk tb) (defBody s__law_crossed) b__law_crossed :=
 (ds_cons (set_ 4 sc__law_crossed.nd (de_biF .len (room_u hr) hg rfl rfl B.b_len (by kernel_rfl) rfl (da_cons (v_ 0) da_nil)))
 (ds_cons (ds_setLc (i := 5) (own := [("turn", 6)]) rfl sc__law_crossed.nd rfl rfl (sw_true rfl rfl rfl (by decide +kernel)) (di_it (v_ 0)) (blkOk_by (own := [("turn", 6)]) (by kernel_rfl)) (g := (.name 6)) (by decide) (fun _ _ _ _ _ => (g_ 6 sc__law_crossed.nd)) (fun _ _ _ _ _ => dts_nil) (fun _ _ _ _ _ => (de_bin .add (v_ 6) (de_biT .tuple (room_u hr) hg rfl rfl B.b_tuple (by kernel_rfl) rfl (da_cons (de_lc (own := [("z", 7)]) rfl sc__law_crossed.nd (di_it (v_ 3)) (blkOk_by (own := [("z", 7)]) (by kernel_rfl)) (g := (.name 7)) (by decide) (fun _ _ _ _ _ => (g_ 7 sc__law_crossed.nd)) (fun _ _ _ _ _ => dts_nil) (fun _ _ _ _ _ => (de_bin .add (v_ 4) (v_ 7)))) da_nil)))))
 (ds_cons (ds_ret (de_bin .add (v_ 5) (de_lc (own := [("turn", 6)]) rfl sc__law_crossed.nd (di_it (v_ 1)) (blkOk_by (own := [("turn", 6)]) (by kernel_rfl)) (g := (.name 6)) (by decide) (fun _ _ _ _ _ => (g_ 6 sc__law_crossed.nd)) (fun _ _ _ _ _ => dts_nil) (fun _ _ _ _ _ => (de_bin .add (v_ 2) (de_biT .tuple (room_u hr) hg rfl rfl B.b_tuple (by kernel_rfl) rfl (da_cons (de_lc (own := [("z", 7)]) rfl sc__law_crossed.nd (di_it (v_ 6)) (blkOk_by (own := [("z", 7)]) (by kernel_rfl)) (g := (.name 7)) (by decide) (fun _ _ _ _ _ => (g_ 7 sc__law_crossed.nd)) (fun _ _ _ _ _ => dts_nil) (fun _ _ _ _ _ => (de_bin .add (v_ 4) (v_ 7)))) da_nil)))))))
 ds_nil)))
/-! ### _law_after -/
abbrev s__law_after : Stmt := top 48
abbrev N__law_after : List Str := ["one", "other", "y"]
abbrev P__law_after : List Str := ["one", "other"]
theorem sc__law_after : FnScope N__law_after P__law_after (defScope s__law_after) := ⟨rfl, rfl, rfl, by decide +kernel, rfl, by decide +kernel, by decide +kernel⟩
def b__law_after : TSv SD :=
 (cCons (cRet (eBi .tuple (sCons (eLc [2] (.name 2) (wIt (eVar 1)) qYes (eIdx (eVar 0) (eVar 2))) sNil)))
 cNil)
def F__law_after : List D → M SD D := runD 3 b__law_after
theorem d__law_after {prog : Program} {w : World} {K : PySem.W.Frag} {mg : Str → Option Value} {base : Heap} {T : Nat → Option Addr} {tb : Addr → Prop} (B : Free mg) 
    {cdv : Value} {a : Addr} {A : Around} {outer : List Env} {s : Shared} {H : Hp} {E : XK} (hr : Room 0 (A.deeper (envOfC "_law_after" (defScope s__law_after) s.heap.objs.size a (cdv)))) (hg : (A.deeper (envOfC "_law_after" (defScope s__law_after) s.heap.objs.size a (cdv))).guards = some []) :
    DSs (cxOf Ev.CX0 prog w K mg base N__law_after "_law_after" (defScope s__law_after) a (cdv) A outer s H E) T (Wdk dkk tb) (defBody s__law_after) b__law_after :=
 (ds_cons (ds_ret (de_biT .tuple (room_u hr) hg rfl rfl B.b_tuple (by kernel_rfl) rfl (da_cons (de_lc (own := [("y", 2)]) rfl sc__law_after.nd (di_it (v_ 1)) (blkOk_by (own := [("y", 2)]) (by kernel_rfl)) (g := (.name 2)) (by decide) (fun _ _ _ _ _ => (g_ 2 sc__law_after.nd)) (fun _ _ _ _ _ => dts_nil) (fun _ _ _ _ _ => (de_idx (v_ 0) (v_ 2) (fun _ _ => rfl)))) da_nil)))
 ds_nil)
/-! ### _law_keeps -/
abbrev s__law_keeps : Stmt := top 51
abbrev N__law_keeps : List Str := ["lefts", "names", "x"]
abbrev P__law_keeps : List Str := ["lefts", "names"]
theorem sc__law_keeps : FnScope N__law_keeps P__law_keeps (defScope s__law_keeps) := ⟨rfl, rfl, rfl, by decide +kernel, rfl, by decide +kernel, by decide +kernel⟩
def b__law_keeps : TSv SD :=
 (cCons (cFor (.name 2) (wR1 (eBi .len (sCons (eVar 0) sNil))) (cCons (cIf (qVal (eCmp .ne (eCall F__law_after (sCons (eVar 1) (sCons (eIdx (eVar 0) (eVar 2)) sNil))) (eCall F__law_after (sCons (eIdx (eVar 0) (eIdx (eVar 1) (eVar 2))) (sCons (eVar 1) sNil))))) (cCons (cRet (eK (.bl false)))
 cNil) cNil)
 cNil))
 (cCons (cRet (eK (.bl true)))
 cNil))
def F__law_keeps : List D → M SD D := runD 3 b__law_keeps
theorem d__law_keeps {prog : Program} {w : World} {K : PySem.W.Frag} {mg : Str → Option Value} {base : Heap} {T : Nat → Option Addr} {tb : Addr → Prop} (B : Free mg) (H__law_after : Known prog w K mg base T (Wdk dkk tb) 1 "_law_after" 2 F__law_after)
    {cdv : Value} {a : Addr} {A : Around} {outer : List Env} {s : Shared} {H : Hp} {E : XK} (hr : Room 1 (A.deeper (envOfC "_law_keeps" (defScope s__law_keeps) s.heap.objs.size a (cdv)))) (hg : (A.deeper (envOfC "_law_keeps" (defScope s__law_keeps) s.heap.objs.size a (cdv))).guards = some []) :
    DSs (cxOf Ev.CX0 prog w K mg base N__law_keeps "_law_keeps" (defScope s__law_keeps) a (cdv) A outer s H E) T (Wdk dkk tb) (defBody s__law_keeps) b__law_keeps :=
 (ds_cons (ds_for own_cx rfl (di_r1 rfl B.b_range (de_biF .len (room_u hr) hg rfl rfl B.b_len (by kernel_rfl) rfl (da_cons (v_ 0) da_nil))) (g_ 2 sc__law_keeps.nd) (ds_cons (ds_if (dt_cmp .ne (room_u hr) (de_call hg (H__law_after.to hr) rfl (da_cons (v_ 1) (da_cons (de_idx (v_ 0) (v_ 2) (fun _ _ => rfl)) da_nil)) (lenC (lenC lenN))) (de_call hg (H__law_after.to hr) rfl (da_cons (de_idx (v_ 0) (de_idx (v_ 1) (v_ 2) (fun _ _ => rfl)) (fun _ _ => rfl)) (da_cons (v_ 1) da_nil)) (lenC (lenC lenN))) rfl) (ds_cons (ds_ret de_bl)
 ds_nil) ds_nil)
 ds_nil))
 (ds_cons (ds_ret de_bl)
 ds_nil))
/-! ### _law_kept -/
abbrev s__law_kept : Stmt := top 52
abbrev N__law_kept : List Str := ["deck", "lefts", "n", "way", "names", "y", "some", "one"]
abbrev P__law_kept : List Str := ["deck", "lefts"]
theorem sc__law_kept : FnScope N__law_kept P__law_kept (defScope s__law_kept) := ⟨rfl, rfl, rfl, by decide +kernel, rfl, by decide +kernel, by decide +kernel⟩
def b__law_kept : TSv SD :=
 (cCons (cPar 2 3 (eBi .len (sCons (eVar 1) sNil)) (eCall F__law_draw (sCons (eVar 0) (sCons (eK (.int 4)) sNil))))
 (cCons (cSet 4 (eBi .tuple (sCons (eBi .range1 (sCons (eVar 2) sNil)) sNil)))
 (cCons (cFor (.name 5) (wR1 (eVar 2)) (cCons (cSet 4 (eCall F__law_after (sCons (eVar 4) (sCons (eIdx (eVar 1) (eMeth .index (eVar 4) (eVar 5))) sNil))))
 cNil))
 (cCons (cSet 6 (eLst (sCons (eVar 4) (sCons (eIdx (eVar 1) (eCall F__law_draw (sCons (eVar 0) (sCons (eVar 2) sNil)))) (sCons (eCall F__law_shuffled (sCons (eVar 0) (sCons (eVar 2) sNil))) (sCons (eBi .tuple (sCons (eBi .range1 (sCons (eVar 2) sNil)) sNil)) sNil))))))
 (cCons (cFor (.name 7) (wIt (eBin .add (eSlc (eVar 6) (oSome (eVar 3)) oNone) (eSlc (eVar 6) oNone (oSome (eVar 3))))) (cCons (cIf (qVal (eCall F__law_keeps (sCons (eVar 1) (sCons (eVar 7) sNil)))) (cCons (cRet (eVar 7))
 cNil) cNil)
 cNil))
 (cCons (cRet (eBi .tuple (sCons (eBi .range1 (sCons (eVar 2) sNil)) sNil)))
 cNil))))))
def F__law_kept : List D → M SD D := runD 8 b__law_kept
theorem d__law_kept {prog : Program} {w : World} {K : PySem.W.Frag} {mg : Str → Option Value} {base : Heap} {T : Nat → Option Addr} {tb : Addr → Prop} (B : Free mg) (H__law_draw : Known prog w K mg base T (Wdk dkk tb) 1 "_law_draw" 2 F__law_draw) (H__law_after : Known prog w K mg base T (Wdk dkk tb) 1 "_law_after" 2 F__law_after) (H__law_shuffled : Known prog w K mg base T (Wdk dkk tb) 2 "_law_shuffled" 2 F__law_shuffled) (H__law_keeps : Known prog w K mg base T (Wdk dkk tb) 2 "_law_keeps" 2 F__law_keeps)
    {cdv : Value} {a : Addr} {A : Around} {outer : List Env} {s : Shared} {H : Hp} {E : XK} (hr : Room 2 (A.deeper (envOfC "_law_kept" (defScope s__law_kept) s.heap.objs.size a (cdv)))) (hg : (A.deeper (envOfC "_law_kept" (defScope s__law_kept) s.heap.objs.size a (cdv))).guards = some []) :
    DSs (cxOf Ev.CX0 prog w K mg base N__law_kept "_law_kept" (defScope s__law_kept) a (cdv) A outer s H E) T (Wdk dkk tb) (defBody s__law_kept) b__law_kept :=
 (ds_cons (ds_par (i := 2) (j := 3) rfl sc__law_kept.nd rfl rfl (by decide) rfl rfl (de_biF .len (room_u hr) hg rfl rfl B.b_len (by kernel_rfl) rfl (da_cons (v_ 1) da_nil)) (de_call hg (H__law_draw.to hr) rfl (da_cons (v_ 0) (da_cons de_int da_nil)) (lenC (lenC lenN))) rfl)
 (ds_cons (set_ 4 sc__law_kept.nd (de_biT .tuple (room_u hr) hg rfl rfl B.b_tuple (by kernel_rfl) rfl (da_cons (de_biT .range1 (room_u hr) hg rfl rfl B.b_range (by kernel_rfl) rfl (da_cons (v_ 2) da_nil)) da_nil)))
 (ds_cons (ds_for own_cx rfl (di_r1 rfl B.b_range (v_ 2)) (g_ 5 sc__law_kept.nd) (ds_cons (set_ 4 sc__law_kept.nd (de_call hg (H__law_after.to hr) rfl (da_cons (v_ 4) (da_cons (de_idx (v_ 1) (de_meth .index (room_u hr) F.slot_list_index F.type_list_index F.slot_tuple_index F.type_tuple_index (v_ 4) (v_ 5)) (fun _ _ => rfl)) da_nil)) (lenC (lenC lenN))))
 ds_nil))
 (ds_cons (set_ 6 sc__law_kept.nd (de_lst (da_cons (v_ 4) (da_cons (de_idx (v_ 1) (de_call hg (H__law_draw.to hr) rfl (da_cons (v_ 0) (da_cons (v_ 2) da_nil)) (lenC (lenC lenN))) (fun _ _ => rfl)) (da_cons (de_call hg (H__law_shuffled.to hr) rfl (da_cons (v_ 0) (da_cons (v_ 2) da_nil)) (lenC (lenC lenN))) (da_cons (de_biT .tuple (room_u hr) hg rfl rfl B.b_tuple (by kernel_rfl) rfl (da_cons (de_biT .range1 (room_u hr) hg rfl rfl B.b_range (by kernel_rfl) rfl (da_cons (v_ 2) da_nil)) da_nil)) da_nil))))))
 (ds_cons (ds_for own_cx rfl (di_it (de_bin .add (de_slc (v_ 6) (do_some (v_ 3)) do_none) (de_slc (v_ 6) do_none (do_some (v_ 3))))) (g_ 7 sc__law_kept.nd) (ds_cons (ds_if (dt_val (de_call hg (H__law_keeps.to hr) rfl (da_cons (v_ 1) (da_cons (v_ 7) da_nil)) (lenC (lenC lenN))) (fun _ => rfl)) (ds_cons (ds_ret (v_ 7))
 ds_nil) ds_nil)
 ds_nil))
 (ds_cons (ds_ret (de_biT .tuple (room_u hr) hg rfl rfl B.b_tuple (by kernel_rfl) rfl (da_cons (de_biT .range1 (room_u hr) hg rfl rfl B.b_range (by kernel_rfl) rfl (da_cons (v_ 2) da_nil)) da_nil)))
 ds_nil))))))
/-! ### _law_mirrored -/
abbrev s__law_mirrored : Stmt := top 54
abbrev N__law_mirrored : List Str := ["lefts", "n", "y", "x"]
abbrev P__law_mirrored : List Str := ["lefts"]
theorem sc__law_mirrored : FnScope N__law_mirrored P__law_mirrored (defScope s__law_mirrored) := ⟨rfl, rfl, rfl, by decide +kernel, rfl, by decide +kernel, by decide +kernel⟩
def b__law_mirrored : TSv SD :=
 (cCons (cSet 1 (eBi .len (sCons (eVar 0) sNil)))
 (cCons (cRet (eLc [2] (.name 2) (wR1 (eVar 1)) qYes (eBi .tuple (sCons (eLc [3] (.name 3) (wR1 (eVar 1)) qYes (eMeth .index (eIdx (eVar 0) (eIdx (eIdx (eVar 0) (eVar 3)) (eVar 2))) (eVar 3))) sNil))))
 cNil))
def F__law_mirrored : List D → M SD D := runD 4 b__law_mirrored
theorem d__law_mirrored {prog : Program} {w : World} {K : PySem.W.Frag} {mg : Str → Option Value} {base : Heap} {T : Nat → Option Addr} {tb : Addr → Prop} (B : Free mg) 
    {cdv : Value} {a : Addr} {A : Around} {outer : List Env} {s : Shared} {H : Hp} {E : XK} (hr : Room 0 (A.deeper (envOfC "_law_mirrored" (defScope s__law_mirrored) s.heap.objs.size a (cdv)))) (hg : (A.deeper (envOfC "_law_mirrored" (defScope s__law_mirrored) s.heap.objs.size a (cdv))).guards = some []) :
    DSs (cxOf Ev.CX0 prog w K mg base N__law_mirrored "_law_mirrored" (defScope s__law_mirrored) a (cdv) A outer s H E) T (Wdk dkk tb) (defBody s__law_mirrored) b__law_mirrored :=
 (ds_cons (set_ 1 sc__law_mirrored.nd (de_biF .len (room_u hr) hg rfl rfl B.b_len (by kernel_rfl) rfl (da_cons (v_ 0) da_nil)))
 (ds_cons (ds_ret (de_lc (own := [("y", 2)]) rfl sc__law_mirrored.nd (di_r1 rfl B.b_range (v_ 1)) (blkOk_by (own := [("y", 2)]) (by kernel_rfl)) (g := (.name 2)) (by decide) (fun _ _ _ _ _ => (g_ 2 sc__law_mirrored.nd)) (fun _ _ _ _ _ => dts_nil) (fun _ _ _ _ _ => (de_biT .tuple (room_u hr) hg rfl rfl B.b_tuple (by kernel_rfl) rfl (da_cons (de_lc (own := [("x", 3)]) rfl sc__law_mirrored.nd (di_r1 rfl B.b_range (v_ 1)) (blkOk_by (own := [("x", 3)]) (by kernel_rfl)) (g := (.name 3)) (by decide) (fun _ _ _ _ _ => (g_ 3 sc__law_mirrored.nd)) (fun _ _ _ _ _ => dts_nil) (fun _ _ _ _ _ => (de_meth .index (room_u hr) F.slot_list_index F.type_list_index F.slot_tuple_index F.type_tuple_index (de_idx (v_ 0) (de_idx (de_idx (v_ 0) (v_ 3) (fun _ _ => rfl)) (v_ 2) (fun _ _ => rfl)) (fun _ _ => rfl)) (v_ 3)))) da_nil)))))
 ds_nil))
/-! ### _law_lefts -/
abbrev s__law_lefts : Stmt := top 55
abbrev N__law_lefts : List Str := ["deck", "n", "is_mirror", "many", "found", "turn", "other", "names", "back", "x", "y"]
abbrev P__law_lefts : List Str := ["deck", "n"]
theorem sc__law_lefts : FnScope N__law_lefts P__law_lefts (defScope s__law_lefts) := ⟨rfl, rfl, rfl, by decide +kernel, rfl, by decide +kernel, by decide +kernel⟩
def b__law_lefts : TSv SD :=
 (cCons (cPar 2 3 (eCmp .eq (eCall F__law_draw (sCons (eVar 0) (sCons (eK (.int 3)) sNil))) (eK (.int 0))) (eIf (qVal (eCmp .eq (eCall F__law_draw (sCons (eVar 0) (sCons (eK (.int 3)) sNil))) (eK (.int 0)))) (eVar 1) (eBin .add (eK (.int 1)) (eCall F__law_draw (sCons (eVar 0) (sCons (eVar 1) sNil))))))
 (cCons (cSet 4 (eCall F__law_base (sCons (eVar 0) (sCons (eVar 3) sNil))))
 (cCons (cFor (.name 5) (wR1 (eK (.int 2))) (cCons (cIf (qVal (eCmp .lt (eBi .len (sCons (eVar 4) sNil)) (eVar 1))) (cCons (cSet 3 (eIf (qVal (eCmp .eq (eVar 5) (eK (.int 1)))) (eBin .sub (eVar 1) (eBi .len (sCons (eVar 4) sNil))) (eBin .add (eK (.int 1)) (eCall F__law_draw (sCons (eVar 0) (sCons (eBin .sub (eVar 1) (eBi .len (sCons (eVar 4) sNil))) sNil))))))
 (cCons (cSet 6 (eCall F__law_base (sCons (eVar 0) (sCons (eVar 3) sNil))))
 (cCons (cSet 4 (eCall F__law_crossed (sCons (eVar 4) (sCons (eVar 6) (sCons (eCall F__law_kept (sCons (eVar 0) (sCons (eVar 4) sNil))) (sCons (eCall F__law_kept (sCons (eVar 0) (sCons (eVar 6) sNil))) sNil))))))
 cNil))) cNil)
 cNil))
 (cCons (cIf (qVal (eVar 2)) (cCons (cSet 4 (eCall F__law_mirrored (sCons (eVar 4) sNil)))
 cNil) cNil)
 (cCons (cSet 7 (eCall F__law_shuffled (sCons (eVar 0) (sCons (eVar 1) sNil))))
 (cCons (cSet 8 (eLc [9] (.name 9) (wR1 (eVar 1)) qYes (eMeth .index (eVar 7) (eVar 9))))
 (cCons (cRet (eLc [9] (.name 9) (wR1 (eVar 1)) qYes (eBi .tuple (sCons (eLc [10] (.name 10) (wR1 (eVar 1)) qYes (eIdx (eVar 7) (eIdx (eIdx (eVar 4) (eIdx (eVar 8) (eVar 9))) (eIdx (eVar 8) (eVar 10))))) sNil))))
 cNil)))))))
def F__law_lefts : List D → M SD D := runD 11 b__law_lefts
theorem d__law_lefts {prog : Program} {w : World} {K : PySem.W.Frag} {mg : Str → Option Value} {base : Heap} {T : Nat → Option Addr} {tb : Addr → Prop} (B : Free mg) (H__law_draw : Known prog w K mg base T (Wdk dkk tb) 1 "_law_draw" 2 F__law_draw) (H__law_base : Known prog w K mg base T (Wdk dkk tb) 3 "_law_base" 2 F__law_base) (H__law_crossed : Known prog w K mg base T (Wdk dkk tb) 1 "_law_crossed" 4 F__law_crossed) (H__law_kept : Known prog w K mg base T (Wdk dkk tb) 3 "_law_kept" 2 F__law_kept) (H__law_mirrored : Known prog w K mg base T (Wdk dkk tb) 1 "_law_mirrored" 1 F__law_mirrored) (H__law_shuffled : Known prog w K mg base T (Wdk dkk tb) 2 "_law_shuffled" 2 F__law_shuffled)
    {cdv : Value} {a : Addr} {A : Around} {outer : List Env} {s : Shared} {H : Hp} {E : XK} (hr : Room 3 (A.deeper (envOfC "_law_lefts" (defScope s__law_lefts) s.heap.objs.size a (cdv)))) (hg : (A.deeper (envOfC "_law_lefts" (defScope s__law_lefts) s.heap.objs.size a (cdv))).guards = some []) :
    DSs (cxOf Ev.CX0 prog w K mg base N__law_lefts "_law_lefts" (defScope s__law_lefts) a (cdv) A outer s H E) T (Wdk dkk tb) (defBody s__law_lefts) b__law_lefts :=
 (ds_cons (ds_par (i := 2) (j := 3) rfl sc__law_lefts.nd rfl rfl (by decide) rfl rfl (de_cmp .eq (room_u hr) (de_call hg (H__law_draw.to hr) rfl (da_cons (v_ 0) (da_cons de_int da_nil)) (lenC (lenC lenN))) de_int rfl) (de_if (dt_cmp .eq (room_u hr) (de_call hg (H__law_draw.to hr) rfl (da_cons (v_ 0) (da_cons de_int da_nil)) (lenC (lenC lenN))) de_int rfl) (v_ 1) (de_bin .add de_int (de_call hg (H__law_draw.to hr) rfl (da_cons (v_ 0) (da_cons (v_ 1) da_nil)) (lenC (lenC lenN))))) rfl)
 (ds_cons (set_ 4 sc__law_lefts.nd (de_call hg (H__law_base.to hr) rfl (da_cons (v_ 0) (da_cons (v_ 3) da_nil)) (lenC (lenC lenN))))
 (ds_cons (ds_for own_cx rfl (di_r1 rfl B.b_range de_int) (g_ 5 sc__law_lefts.nd) (ds_cons (ds_if (dt_cmp .lt (room_u hr) (de_biF .len (room_u hr) hg rfl rfl B.b_len (by kernel_rfl) rfl (da_cons (v_ 4) da_nil)) (v_ 1) rfl) (ds_cons (set_ 3 sc__law_lefts.nd (de_if (dt_cmp .eq (room_u hr) (v_ 5) de_int rfl) (de_bin .sub (v_ 1) (de_biF .len (room_u hr) hg rfl rfl B.b_len (by kernel_rfl) rfl (da_cons (v_ 4) da_nil))) (de_bin .add de_int (de_call hg (H__law_draw.to hr) rfl (da_cons (v_ 0) (da_cons (de_bin .sub (v_ 1) (de_biF .len (room_u hr) hg rfl rfl B.b_len (by kernel_rfl) rfl (da_cons (v_ 4) da_nil))) da_nil)) (lenC (lenC lenN))))))
 (ds_cons (set_ 6 sc__law_lefts.nd (de_call hg (H__law_base.to hr) rfl (da_cons (v_ 0) (da_cons (v_ 3) da_nil)) (lenC (lenC lenN))))
 (ds_cons (set_ 4 sc__law_lefts.nd (de_call hg (H__law_crossed.to hr) rfl (da_cons (v_ 4) (da_cons (v_ 6) (da_cons (de_call hg (H__law_kept.to hr) rfl (da_cons (v_ 0) (da_cons (v_ 4) da_nil)) (lenC (lenC lenN))) (da_cons (de_call hg (H__law_kept.to hr) rfl (da_cons (v_ 0) (da_cons (v_ 6) da_nil)) (lenC (lenC lenN))) da_nil)))) (lenC (lenC (lenC (lenC lenN))))))
 ds_nil))) ds_nil)
 ds_nil))
 (ds_cons (ds_if (dt_val (v_ 2) (fun _ => rfl)) (ds_cons (set_ 4 sc__law_lefts.nd (de_call hg (H__law_mirrored.to hr) rfl (da_cons (v_ 4) da_nil) (lenC lenN)))
 ds_nil) ds_nil)
 (ds_cons (set_ 7 sc__law_lefts.nd (de_call hg (H__law_shuffled.to hr) rfl (da_cons (v_ 0) (da_cons (v_ 1) da_nil)) (lenC (lenC lenN))))
 (ds_cons (set_ 8 sc__law_lefts.nd (de_lc (own := [("x", 9)]) rfl sc__law_lefts.nd (di_r1 rfl B.b_range (v_ 1)) (blkOk_by (own := [("x", 9)]) (by kernel_rfl)) (g := (.name 9)) (by decide) (fun _ _ _ _ _ => (g_ 9 sc__law_lefts.nd)) (fun _ _ _ _ _ => dts_nil) (fun _ _ _ _ _ => (de_meth .index (room_u hr) F.slot_list_index F.type_list_index F.slot_tuple_index F.type_tuple_index (v_ 7) (v_ 9)))))
 (ds_cons (ds_ret (de_lc (own := [("x", 9)]) rfl sc__law_lefts.nd (di_r1 rfl B.b_range (v_ 1)) (blkOk_by (own := [("x", 9)]) (by kernel_rfl)) (g := (.name 9)) (by decide) (fun _ _ _ _ _ => (g_ 9 sc__law_lefts.nd)) (fun _ _ _ _ _ => dts_nil) (fun _ _ _ _ _ => (de_biT .tuple (room_u hr) hg rfl rfl B.b_tuple (by kernel_rfl) rfl (da_cons (de_lc (own := [("y", 10)]) rfl sc__law_lefts.nd (di_r1 rfl B.b_range (v_ 1)) (blkOk_by (own := [("y", 10)]) (by kernel_rfl)) (g := (.name 10)) (by decide) (fun _ _ _ _ _ => (g_ 10 sc__law_lefts.nd)) (fun _ _ _ _ _ => dts_nil) (fun _ _ _ _ _ => (de_idx (v_ 7) (de_idx (de_idx (v_ 4) (de_idx (v_ 8) (v_ 9) (fun _ _ => rfl)) (fun _ _ => rfl)) (de_idx (v_ 8) (v_ 10) (fun _ _ => rfl)) (fun _ _ => rfl)) (fun _ _ => rfl)))) da_nil)))))
 ds_nil)))))))
/-! ### _law_table -/
abbrev s__law_table : Stmt := top 56
abbrev N__law_table : List Str := ["lefts", "n", "x", "y"]
abbrev P__law_table : List Str := ["lefts"]
theorem sc__law_table : FnScope N__law_table P__law_table (defScope s__law_table) := ⟨rfl, rfl, rfl, by decide +kernel, rfl, by decide +kernel, by decide +kernel⟩
def b__law_table : TSv SD :=
 (cCons (cSet 1 (eBi .len (sCons (eVar 0) sNil)))
 (cCons (cRet (eBi .tuple (sCons (eLc [2] (.name 2) (wR1 (eVar 1)) qYes (eBi .tuple (sCons (eLc [3] (.name 3) (wR1 (eVar 1)) qYes (eTup (sCons (eIdx (eIdx (eVar 0) (eVar 2)) (eVar 3)) (sCons (eMeth .index (eIdx (eVar 0) (eIdx (eIdx (eVar 0) (eVar 2)) (eVar 3))) (eVar 2)) sNil)))) sNil))) sNil)))
 cNil))
def F__law_table : List D → M SD D := runD 4 b__law_table
theorem d__law_table {prog : Program} {w : World} {K : PySem.W.Frag} {mg : Str → Option Value} {base : Heap} {T : Nat → Option Addr} {tb : Addr → Prop} (B : Free mg) 
    {cdv : Value} {a : Addr} {A : Around} {outer : List Env} {s : Shared} {H : Hp} {E : XK} (hr : Room 0 (A.deeper (envOfC "_law_table" (defScope s__law_table) s.heap.objs.size a (cdv)))) (hg : (A.deeper (envOfC "_law_table" (defScope s__law_table) s.heap.objs.size a (cdv))).guards = some []) :
    DSs (cxOf Ev.CX0 prog w K mg base N__law_table "_law_table" (defScope s__law_table) a (cdv) A outer s H E) T (Wdk dkk tb) (defBody s__law_table) b__law_table :=
 (ds_cons (set_ 1 sc__law_table.nd (de_biF .len (room_u hr) hg rfl rfl B.b_len (by kernel_rfl) rfl (da_cons (v_ 0) da_nil)))
 (ds_cons (ds_ret (de_biT .tuple (room_u hr) hg rfl rfl B.b_tuple (by kernel_rfl) rfl (da_cons (de_lc (own := [("x", 2)]) rfl sc__law_table.nd (di_r1 rfl B.b_range (v_ 1)) (blkOk_by (own := [("x", 2)]) (by kernel_rfl)) (g := (.name 2)) (by decide) (fun _ _ _ _ _ => (g_ 2 sc__law_table.nd)) (fun _ _ _ _ _ => dts_nil) (fun _ _ _ _ _ => (de_biT .tuple (room_u hr) hg rfl rfl B.b_tuple (by kernel_rfl) rfl (da_cons (de_lc (own := [("y", 3)]) rfl sc__law_table.nd (di_r1 rfl B.b_range (v_ 1)) (blkOk_by (own := [("y", 3)]) (by kernel_rfl)) (g := (.name 3)) (by decide) (fun _ _ _ _ _ => (g_ 3 sc__law_table.nd)) (fun _ _ _ _ _ => dts_nil) (fun _ _ _ _ _ => (de_tup (da_cons (de_idx (de_idx (v_ 0) (v_ 2) (fun _ _ => rfl)) (v_ 3) (fun _ _ => rfl)) (da_cons (de_meth .index (room_u hr) F.slot_list_index F.type_list_index F.slot_tuple_index F.type_tuple_index (de_idx (v_ 0) (de_idx (de_idx (v_ 0) (v_ 2) (fun _ _ => rfl)) (v_ 3) (fun _ _ => rfl)) (fun _ _ => rfl)) (v_ 2)) da_nil))))) da_nil)))) da_nil)))
 ds_nil))
/-! ### is_twice_fault -/
abbrev s_is_twice_fault : Stmt := top 29
abbrev N_is_twice_fault : List Str := ["table", "x", "y", "u", "v"]
abbrev P_is_twice_fault : List Str := ["table", "x", "y"]
theorem sc_is_twice_fault : FnScope N_is_twice_fault P_is_twice_fault (defScope s_is_twice_fault) := ⟨rfl, rfl, rfl, by decide +kernel, rfl, by decide +kernel, by decide +kernel⟩
def b_is_twice_fault : TSv SD :=
 (cCons (cUnp (.pair (.name 3) (.name 4)) (eIdx (eIdx (eVar 0) (eVar 1)) (eVar 2)))
 (cCons (cRet (eCmp .ne (eIdx (eIdx (eVar 0) (eVar 3)) (eVar 4)) (eTup (sCons (eVar 1) (sCons (eVar 2) sNil)))))
 cNil))
def F_is_twice_fault : List D → M SD D := runD 5 b_is_twice_fault
theorem d_is_twice_fault {prog : Program} {w : World} {K : PySem.W.Frag} {mg : Str → Option Value} {base : Heap} {T : Nat → Option Addr} {tb : Addr → Prop} (B : Free mg) 
    {cdv : Value} {a : Addr} {A : Around} {outer : List Env} {s : Shared} {H : Hp} {E : XK} (hr : Room 0 (A.deeper (envOfC "is_twice_fault" (defScope s_is_twice_fault) s.heap.objs.size a (cdv)))) (hg : (A.deeper (envOfC "is_twice_fault" (defScope s_is_twice_fault) s.heap.objs.size a (cdv))).guards = some []) :
    DSs (cxOf Ev.CX0 prog w K mg base N_is_twice_fault "is_twice_fault" (defScope s_is_twice_fault) a (cdv) A outer s H E) T (Wdk dkk tb) (defBody s_is_twice_fault) b_is_twice_fault :=
 (ds_cons (ds_unp (de_idx (de_idx (v_ 0) (v_ 1) (fun _ _ => rfl)) (v_ 2) (fun _ _ => rfl)) (dg_pair rfl (g_ 3 sc_is_twice_fault.nd) (g_ 4 sc_is_twice_fault.nd)))
 (ds_cons (ds_ret (de_cmp .ne (room_u hr) (de_idx (de_idx (v_ 0) (v_ 3) (fun _ _ => rfl)) (v_ 4) (fun _ _ => rfl)) (de_tup (da_cons (v_ 1) (da_cons (v_ 2) da_nil))) rfl))
 ds_nil))
/-! ### is_left_fault -/
abbrev s_is_left_fault : Stmt := top 30
abbrev N_is_left_fault : List Str := ["table", "x", "y", "z"]
abbrev P_is_left_fault : List Str := ["table", "x", "y", "z"]
theorem sc_is_left_fault : FnScope N_is_left_fault P_is_left_fault (defScope s_is_left_fault) := ⟨rfl, rfl, rfl, by decide +kernel, rfl, by decide +kernel, by decide +kernel⟩
def b_is_left_fault : TSv SD :=
 (cCons (cRet (eAnd (eCmp .lt (eVar 2) (eVar 3)) (eCmp .eq (eIdx (eIdx (eIdx (eVar 0) (eVar 1)) (eVar 2)) (eK (.int 0))) (eIdx (eIdx (eIdx (eVar 0) (eVar 1)) (eVar 3)) (eK (.int 0))))))
 cNil)
def F_is_left_fault : List D → M SD D := runD 4 b_is_left_fault
theorem d_is_left_fault {prog : Program} {w : World} {K : PySem.W.Frag} {mg : Str → Option Value} {base : Heap} {T : Nat → Option Addr} {tb : Addr → Prop} (B : Free mg) 
    {cdv : Value} {a : Addr} {A : Around} {outer : List Env} {s : Shared} {H : Hp} {E : XK} (hr : Room 0 (A.deeper (envOfC "is_left_fault" (defScope s_is_left_fault) s.heap.objs.size a (cdv)))) (hg : (A.deeper (envOfC "is_left_fault" (defScope s_is_left_fault) s.heap.objs.size a (cdv))).guards = some []) :
    DSs (cxOf Ev.CX0 prog w K mg base N_is_left_fault "is_left_fault" (defScope s_is_left_fault) a (cdv) A outer s H E) T (Wdk dkk tb) (defBody s_is_left_fault) b_is_left_fault :=
 (ds_cons (ds_ret (de_and (de_cmp .lt (room_u hr) (v_ 2) (v_ 3) rfl) (de_one (de_cmp .eq (room_u hr) (de_idx (de_idx (de_idx (v_ 0) (v_ 1) (fun _ _ => rfl)) (v_ 2) (fun _ _ => rfl)) de_int (fun _ _ => rfl)) (de_idx (de_idx (de_idx (v_ 0) (v_ 1) (fun _ _ => rfl)) (v_ 3) (fun _ _ => rfl)) de_int (fun _ _ => rfl)) rfl))))
 ds_nil)
/-! ### is_right_fault -/
abbrev s_is_right_fault : Stmt := top 31
abbrev N_is_right_fault : List Str := ["table", "y", "x", "z"]
abbrev P_is_right_fault : List Str := ["table", "y", "x", "z"]
theorem sc_is_right_fault : FnScope N_is_right_fault P_is_right_fault (defScope s_is_right_fault) := ⟨rfl, rfl, rfl, by decide +kernel, rfl, by decide +kernel, by decide +kernel⟩
def b_is_right_fault : TSv SD :=
 (cCons (cRet (eAnd (eCmp .lt (eVar 2) (eVar 3)) (eCmp .eq (eIdx (eIdx (eIdx (eVar 0) (eVar 2)) (eVar 1)) (eK (.int 1))) (eIdx (eIdx (eIdx (eVar 0) (eVar 3)) (eVar 1)) (eK (.int 1))))))
 cNil)
def F_is_right_fault : List D → M SD D := runD 4 b_is_right_fault
theorem d_is_right_fault {prog : Program} {w : World} {K : PySem.W.Frag} {mg : Str → Option Value} {base : Heap} {T : Nat → Option Addr} {tb : Addr → Prop} (B : Free mg) 
    {cdv : Value} {a : Addr} {A : Around} {outer : List Env} {s : Shared} {H : Hp} {E : XK} (hr : Room 0 (A.deeper (envOfC "is_right_fault" (defScope s_is_right_fault) s.heap.objs.size a (cdv)))) (hg : (A.deeper (envOfC "is_right_fault" (defScope s_is_right_fault) s.heap.objs.size a (cdv))).guards = some []) :
    DSs (cxOf Ev.CX0 prog w K mg base N_is_right_fault "is_right_fault" (defScope s_is_right_fault) a (cdv) A outer s H E) T (Wdk dkk tb) (defBody s_is_right_fault) b_is_right_fault :=
 (ds_cons (ds_ret (de_and (de_cmp .lt (room_u hr) (v_ 2) (v_ 3) rfl) (de_one (de_cmp .eq (room_u hr) (de_idx (de_idx (de_idx (v_ 0) (v_ 2) (fun _ _ => rfl)) (v_ 1) (fun _ _ => rfl)) de_int (fun _ _ => rfl)) (de_idx (de_idx (de_idx (v_ 0) (v_ 3) (fun _ _ => rfl)) (v_ 1) (fun _ _ => rfl)) de_int (fun _ _ => rfl)) rfl))))
 ds_nil)
/-! ### met_row -/
abbrev s_met_row : Stmt := top 28
abbrev N_met_row : List Str := ["table", "row", "place"]
abbrev P_met_row : List Str := ["table", "row", "place"]
theorem sc_met_row : FnScope N_met_row P_met_row (defScope s_met_row) := ⟨rfl, rfl, rfl, by decide +kernel, rfl, by decide +kernel, by decide +kernel⟩
def b_met_row : TSv SD :=
 (cCons (cRet (eBin .add (eBin .add (eSlc (eVar 1) oNone (oSome (eVar 2))) (eIdx (eIdx (eVar 0) (eIdx (eVar 1) (eVar 2))) (eIdx (eVar 1) (eBin .add (eVar 2) (eK (.int 1)))))) (eSlc (eVar 1) (oSome (eBin .add (eVar 2) (eK (.int 2)))) oNone)))
 cNil)
def F_met_row : List D → M SD D := runD 3 b_met_row
theorem d_met_row {prog : Program} {w : World} {K : PySem.W.Frag} {mg : Str → Option Value} {base : Heap} {T : Nat → Option Addr} {tb : Addr → Prop} (B : Free mg) 
    {cdv : Value} {a : Addr} {A : Around} {outer : List Env} {s : Shared} {H : Hp} {E : XK} (hr : Room 0 (A.deeper (envOfC "met_row" (defScope s_met_row) s.heap.objs.size a (cdv)))) (hg : (A.deeper (envOfC "met_row" (defScope s_met_row) s.heap.objs.size a (cdv))).guards = some []) :
    DSs (cxOf Ev.CX0 prog w K mg base N_met_row "met_row" (defScope s_met_row) a (cdv) A outer s H E) T (Wdk dkk tb) (defBody s_met_row) b_met_row :=
 (ds_cons (ds_ret (de_bin .add (de_bin .add (de_slc (v_ 1) do_none (do_some (v_ 2))) (de_idx (de_idx (v_ 0) (de_idx (v_ 1) (v_ 2) (fun _ _ => rfl)) (fun _ _ => rfl)) (de_idx (v_ 1) (de_bin .add (v_ 2) de_int) (fun _ _ => rfl)) (fun _ _ => rfl))) (de_slc (v_ 1) (do_some (de_bin .add (v_ 2) de_int)) do_none)))
 ds_nil)
/-! ### is_three_fault -/
abbrev s_is_three_fault : Stmt := top 32
abbrev N_is_three_fault : List Str := ["table", "x", "y", "z", "one", "other", "place"]
abbrev P_is_three_fault : List Str := ["table", "x", "y", "z"]
theorem sc_is_three_fault : FnScope N_is_three_fault P_is_three_fault (defScope s_is_three_fault) := ⟨rfl, rfl, rfl, by decide +kernel, rfl, by decide +kernel, by decide +kernel⟩
def b_is_three_fault : TSv SD :=
 (cCons (cPar 4 5 (eTup (sCons (eVar 1) (sCons (eVar 2) (sCons (eVar 3) sNil)))) (eTup (sCons (eVar 1) (sCons (eVar 2) (sCons (eVar 3) sNil)))))
 (cCons (cFor (.name 6) (wIt (eTup (sCons (eK (.int 0)) (sCons (eK (.int 1)) (sCons (eK (.int 0)) sNil))))) (cCons (cSet 4 (eCall F_met_row (sCons (eVar 0) (sCons (eVar 4) (sCons (eVar 6) sNil)))))
 cNil))
 (cCons (cFor (.name 6) (wIt (eTup (sCons (eK (.int 1)) (sCons (eK (.int 0)) (sCons (eK (.int 1)) sNil))))) (cCons (cSet 5 (eCall F_met_row (sCons (eVar 0) (sCons (eVar 5) (sCons (eVar 6) sNil)))))
 cNil))
 (cCons (cRet (eCmp .ne (eVar 4) (eVar 5)))
 cNil))))
def F_is_three_fault : List D → M SD D := runD 7 b_is_three_fault
theorem d_is_three_fault {prog : Program} {w : World} {K : PySem.W.Frag} {mg : Str → Option Value} {base : Heap} {T : Nat → Option Addr} {tb : Addr → Prop} (B : Free mg) (H_met_row : Known prog w K mg base T (Wdk dkk tb) 1 "met_row" 3 F_met_row)
    {cdv : Value} {a : Addr} {A : Around} {outer : List Env} {s : Shared} {H : Hp} {E : XK} (hr : Room 1 (A.deeper (envOfC "is_three_fault" (defScope s_is_three_fault) s.heap.objs.size a (cdv)))) (hg : (A.deeper (envOfC "is_three_fault" (defScope s_is_three_fault) s.heap.objs.size a (cdv))).guards = some []) :
    DSs (cxOf Ev.CX0 prog w K mg base N_is_three_fault "is_three_fault" (defScope s_is_three_fault) a (cdv) A outer s H E) T (Wdk dkk tb) (defBody s_is_three_fault) b_is_three_fault :=
 (ds_cons (ds_par (i := 4) (j := 5) rfl sc_is_three_fault.nd rfl rfl (by decide) rfl rfl (de_tup (da_cons (v_ 1) (da_cons (v_ 2) (da_cons (v_ 3) da_nil)))) (de_tup (da_cons (v_ 1) (da_cons (v_ 2) (da_cons (v_ 3) da_nil)))) rfl)
 (ds_cons (ds_for own_cx rfl (di_it (de_tup (da_cons de_int (da_cons de_int (da_cons de_int da_nil))))) (g_ 6 sc_is_three_fault.nd) (ds_cons (set_ 4 sc_is_three_fault.nd (de_call hg (H_met_row.to hr) rfl (da_cons (v_ 0) (da_cons (v_ 4) (da_cons (v_ 6) da_nil))) (lenC (lenC (lenC lenN)))))
 ds_nil))
 (ds_cons (ds_for own_cx rfl (di_it (de_tup (da_cons de_int (da_cons de_int (da_cons de_int da_nil))))) (g_ 6 sc_is_three_fault.nd) (ds_cons (set_ 5 sc_is_three_fault.nd (de_call hg (H_met_row.to hr) rfl (da_cons (v_ 0) (da_cons (v_ 5) (da_cons (v_ 6) da_nil))) (lenC (lenC (lenC lenN)))))
 ds_nil))
 (ds_cons (ds_ret (de_cmp .ne (room_u hr) (v_ 4) (v_ 5) rfl))
 ds_nil))))
def ar_v : Nat → Nat
  | 0 => 4
  | 1 => 4
  | 2 => 4
  | _ => 0
def Fs_v : Nat → List D → M SD D
  | 0 => F_is_left_fault
  | 1 => F_is_right_fault
  | 2 => F_is_three_fault
  | _ => fun _ => .fail
/-! ### fault_of -/
abbrev s_fault_of : Stmt := top 34
abbrev N_fault_of : List Str := ["table", "kinds", "x", "y", "word", "is_fault", "z"]
abbrev P_fault_of : List Str := ["table"]
theorem sc_fault_of : FnScope N_fault_of P_fault_of (defScope s_fault_of) := ⟨rfl, rfl, rfl, by decide +kernel, rfl, by decide +kernel, by decide +kernel⟩
def b_fault_of : TSv SD :=
 (cCons (cSet 1 (eBi .range1 (sCons (eBi .len (sCons (eVar 0) sNil)) sNil)))
 (cCons (cFor (.name 2) (wIt (eVar 1)) (cCons (cFor (.name 3) (wIt (eVar 1)) (cCons (cIf (qVal (eCall F_is_twice_fault (sCons (eVar 0) (sCons (eVar 2) (sCons (eVar 3) sNil))))) (cCons (cRet (eTup (sCons (eK (.str "twice")) (sCons (eVar 2) (sCons (eVar 3) sNil)))))
 cNil) cNil)
 cNil))
 cNil))
 (cCons (cFor (.name 4) (wIt (eTup (sCons (eK (.str "left")) (sCons (eK (.str "right")) (sCons (eK (.str "three")) sNil))))) (cCons (cSet 5 (eTab t_FAULTS (eVar 4)))
 (cCons (cFor (.name 2) (wIt (eVar 1)) (cCons (cFor (.name 3) (wIt (eVar 1)) (cCons (cFor (.name 6) (wIt (eVar 1)) (cCons (cIf (qVal (eCallV Fs_v ar_v 4 5 (sCons (eVar 0) (sCons (eVar 2) (sCons (eVar 3) (sCons (eVar 6) sNil)))))) (cCons (cRet (eTup (sCons (eVar 4) (sCons (eVar 2) (sCons (eVar 3) (sCons (eVar 6) sNil))))))
 cNil) cNil)
 cNil))
 cNil))
 cNil))
 cNil)))
 (cCons (cRet (eK .non))
 cNil))))
def F_fault_of : List D → M SD D := runD 7 b_fault_of
theorem d_fault_of {prog : Program} {w : World} {K : PySem.W.Frag} {mg : Str → Option Value} {base : Heap} {T : Nat → Option Addr} {tb : Addr → Prop} (B : Free mg) (H_is_twice_fault : Known prog w K mg base T (Wdk dkk tb) 1 "is_twice_fault" 3 F_is_twice_fault) (HV : KnownV prog w K mg base T (Wdk dkk tb) 2 ar_v Fs_v) {d_FAULTS des_FAULTS dn_FAULTS} (h_FAULTS : Tab_FAULTS K w mg T d_FAULTS des_FAULTS dn_FAULTS)
    {cdv : Value} {a : Addr} {A : Around} {outer : List Env} {s : Shared} {H : Hp} {E : XK} (hr : Room 2 (A.deeper (envOfC "fault_of" (defScope s_fault_of) s.heap.objs.size a (cdv)))) (hg : (A.deeper (envOfC "fault_of" (defScope s_fault_of) s.heap.objs.size a (cdv))).guards = some []) :
    DSs (cxOf Ev.CX0 prog w K mg base N_fault_of "fault_of" (defScope s_fault_of) a (cdv) A outer s H E) T (Wdk dkk tb) (defBody s_fault_of) b_fault_of :=
 (ds_cons (set_ 1 sc_fault_of.nd (de_biT .range1 (room_u hr) hg rfl rfl B.b_range (by kernel_rfl) rfl (da_cons (de_biF .len (room_u hr) hg rfl rfl B.b_len (by kernel_rfl) rfl (da_cons (v_ 0) da_nil)) da_nil)))
 (ds_cons (ds_for own_cx rfl (di_it (v_ 1)) (g_ 2 sc_fault_of.nd) (ds_cons (ds_for own_cx rfl (di_it (v_ 1)) (g_ 3 sc_fault_of.nd) (ds_cons (ds_if (dt_val (de_call hg (H_is_twice_fault.to hr) rfl (da_cons (v_ 0) (da_cons (v_ 2) (da_cons (v_ 3) da_nil))) (lenC (lenC (lenC lenN)))) (fun _ => rfl)) (ds_cons (ds_ret (de_tup (da_cons de_str (da_cons (v_ 2) (da_cons (v_ 3) da_nil)))))
 ds_nil) ds_nil)
 ds_nil))
 ds_nil))
 (ds_cons (ds_for own_cx rfl (di_it (de_tup (da_cons de_str (da_cons de_str (da_cons de_str da_nil))))) (g_ 4 sc_fault_of.nd) (ds_cons (set_ 5 sc_fault_of.nd (de_tab h_FAULTS.kd rfl h_FAULTS.mg (fun _ _ => rfl) (v_ 4) h_FAULTS.vals))
 (ds_cons (ds_for own_cx rfl (di_it (v_ 1)) (g_ 2 sc_fault_of.nd) (ds_cons (ds_for own_cx rfl (di_it (v_ 1)) (g_ 3 sc_fault_of.nd) (ds_cons (ds_for own_cx rfl (di_it (v_ 1)) (g_ 6 sc_fault_of.nd) (ds_cons (ds_if (dt_val (de_callV (i := 5) hg (HV.to hr) rfl (by first | exact .inl rfl | exact .inr (.inl rfl) | exact .inr (.inr rfl)) (da_cons (v_ 0) (da_cons (v_ 2) (da_cons (v_ 3) (da_cons (v_ 6) da_nil)))) (lenC (lenC (lenC (lenC lenN))))) (fun _ => rfl)) (ds_cons (ds_ret (de_tup (da_cons (v_ 4) (da_cons (v_ 2) (da_cons (v_ 3) (da_cons (v_ 6) da_nil))))))
 ds_nil) ds_nil)
 ds_nil))
 ds_nil))
 ds_nil))
 ds_nil)))
 (ds_cons (ds_ret de_non)
 ds_nil))))
/-! ### is_integer -/
abbrev s_is_integer : Stmt := top 18
abbrev N_is_integer : List Str := ["thing"]
abbrev P_is_integer : List Str := ["thing"]
theorem sc_is_integer : FnScope N_is_integer P_is_integer (defScope s_is_integer) := ⟨rfl, rfl, rfl, by decide +kernel, rfl, by decide +kernel, by decide +kernel⟩
def b_is_integer : TSv SD :=
 (cCons (cRet (eAnd (eIsi .isInt (eVar 0)) (eNot (eIsi .isBool (eVar 0)))))
 cNil)
def F_is_integer : List D → M SD D := runD 1 b_is_integer
theorem d_is_integer {prog : Program} {w : World} {K : PySem.W.Frag} {mg : Str → Option Value} {base : Heap} {T : Nat → Option Addr} {tb : Addr → Prop} (B : Free mg) 
    {cdv : Value} {a : Addr} {A : Around} {outer : List Env} {s : Shared} {H : Hp} {E : XK} (hr : Room 0 (A.deeper (envOfC "is_integer" (defScope s_is_integer) s.heap.objs.size a (cdv)))) (hg : (A.deeper (envOfC "is_integer" (defScope s_is_integer) s.heap.objs.size a (cdv))).guards = some []) :
    DSs (cxOf Ev.CX0 prog w K mg base N_is_integer "is_integer" (defScope s_is_integer) a (cdv) A outer s H E) T (Wdk dkk tb) (defBody s_is_integer) b_is_integer :=
 (ds_cons (ds_ret (de_and (de_isi .isInt (by decide) rfl B.b_isinstance (by kernel_rfl) rfl B.b_int (by kernel_rfl) (v_ 0)) (de_one (de_not (de_isi .isBool (by decide) rfl B.b_isinstance (by kernel_rfl) rfl B.b_bool (by kernel_rfl) (v_ 0))))))
 ds_nil)
/-! ### is_size -/
abbrev s_is_size : Stmt := top 23
abbrev N_is_size : List Str := ["thing"]
abbrev P_is_size : List Str := ["thing"]
theorem sc_is_size : FnScope N_is_size P_is_size (defScope s_is_size) := ⟨rfl, rfl, rfl, by decide +kernel, rfl, by decide +kernel, by decide +kernel⟩
def b_is_size : TSv SD :=
 (cCons (cRet (eAnd (eCall F_is_integer (sCons (eVar 0) sNil)) (eChain .le .le (eK (.int 1)) (eVar 0) (eK (.int (8))))))
 cNil)
def F_is_size : List D → M SD D := runD 1 b_is_size
theorem d_is_size {prog : Program} {w : World} {K : PySem.W.Frag} {mg : Str → Option Value} {base : Heap} {T : Nat → Option Addr} {tb : Addr → Prop} (B : Free mg) (H_is_integer : Known prog w K mg base T (Wdk dkk tb) 1 "is_integer" 1 F_is_integer)
    {cdv : Value} {a : Addr} {A : Around} {outer : List Env} {s : Shared} {H : Hp} {E : XK} (hr : Room 1 (A.deeper (envOfC "is_size" (defScope s_is_size) s.heap.objs.size a (cdv)))) (hg : (A.deeper (envOfC "is_size" (defScope s_is_size) s.heap.objs.size a (cdv))).guards = some []) :
    DSs (cxOf Ev.CX0 prog w K mg base N_is_size "is_size" (defScope s_is_size) a (cdv) A outer s H E) T (Wdk dkk tb) (defBody s_is_size) b_is_size :=
 (ds_cons (ds_ret (de_and (de_call hg (H_is_integer.to hr) rfl (da_cons (v_ 0) da_nil) (lenC lenN)) (de_one (de_chain .le .le (room_u hr) de_int (v_ 0) (de_gint rfl B.c_MOST_KINDS) rfl))))
 ds_nil)
/-! ### is_rows -/
abbrev s_is_rows : Stmt := top 24
abbrev N_is_rows : List Str := ["thing", "row"]
abbrev P_is_rows : List Str := ["thing"]
theorem sc_is_rows : FnScope N_is_rows P_is_rows (defScope s_is_rows) := ⟨rfl, rfl, rfl, by decide +kernel, rfl, by decide +kernel, by decide +kernel⟩
def b_is_rows : TSv SD :=
 (cCons (cIf (qOr (qNot (qVal (eIsi .isTuple (eVar 0)))) (qNot (qVal (eCall F_is_size (sCons (eBi .len (sCons (eVar 0) sNil)) sNil))))) (cCons (cRet (eK (.bl false)))
 cNil) cNil)
 (cCons (cRet (eAll [1] (wIt (eVar 0)) (allBody (.name 1) (eAnd (eIsi .isTuple (eVar 1)) (eCmp .eq (eBi .len (sCons (eVar 1) sNil)) (eBi .len (sCons (eVar 0) sNil)))))))
 cNil))
def F_is_rows : List D → M SD D := runD 2 b_is_rows
theorem d_is_rows {prog : Program} {w : World} {K : PySem.W.Frag} {mg : Str → Option Value} {base : Heap} {T : Nat → Option Addr} {tb : Addr → Prop} (B : Free mg) (H_is_size : Known prog w K mg base T (Wdk dkk tb) 2 "is_size" 1 F_is_size)
    {c Pt : Addr} (TB : GxR.TabB base mg c Pt) (htb : tb Pt) {a : Addr} {A : Around} {outer : List Env} {s : Shared} {H : Hp} {E : XK} (hr : Room 2 (A.deeper (envOfC "is_rows" (defScope s_is_rows) s.heap.objs.size a (.ref c)))) (hg : (A.deeper (envOfC "is_rows" (defScope s_is_rows) s.heap.objs.size a (.ref c))).guards = some []) :
    DSs (cxOf Ev.CX0 prog w K mg base N_is_rows "is_rows" (defScope s_is_rows) a (.ref c) A outer s H E) T (Wdk dkk tb) (defBody s_is_rows) b_is_rows :=
 (ds_cons (ds_if (dt_w (dw_or (dt_not (dt_val (de_isi .isTuple (by decide) rfl B.b_isinstance (by kernel_rfl) rfl B.b_tuple (by kernel_rfl) (v_ 0)) (fun _ => rfl))) (dw_or1 (dt_not (dt_val (de_call hg (H_is_size.to hr) rfl (da_cons (de_biF .len (room_u hr) hg rfl rfl B.b_len (by kernel_rfl) rfl (da_cons (v_ 0) da_nil)) da_nil) (lenC lenN)) (fun _ => rfl)))))) (ds_cons (ds_ret de_bl)
 ds_nil) ds_nil)
 (ds_cons (ds_ret (de_all (k := 1) (own := [("row", 1)]) hr hg rfl sc_is_rows.nd rfl B.b_all TB rfl htb (gen_by (by kernel_rfl)) (di_it (v_ 0)) (turns1 (g := (.name 1)) rfl rfl (by decide) (fun _ _ _ _ _ _ _ => (g_ 1 sc_is_rows.nd)) (fun _ _ _ _ _ _ _ hr hg => (de_and (de_isi .isTuple (by decide) rfl B.b_isinstance (by kernel_rfl) rfl B.b_tuple (by kernel_rfl) (v_ 1)) (de_one (de_cmp .eq (room_u hr) (de_biF .len (room_u hr) hg rfl rfl B.b_len (by kernel_rfl) rfl (da_cons (v_ 1) da_nil)) (de_biF .len (room_u hr) hg rfl rfl B.b_len (by kernel_rfl) rfl (da_cons (v_ 0) da_nil)) rfl)))))))
 ds_nil))
/-! ### is_below -/
abbrev s_is_below : Stmt := top 19
abbrev N_is_below : List Str := ["thing", "n"]
abbrev P_is_below : List Str := ["thing", "n"]
theorem sc_is_below : FnScope N_is_below P_is_below (defScope s_is_below) := ⟨rfl, rfl, rfl, by decide +kernel, rfl, by decide +kernel, by decide +kernel⟩
def b_is_below : TSv SD :=
 (cCons (cRet (eAnd (eCall F_is_integer (sCons (eVar 0) sNil)) (eChain .le .lt (eK (.int 0)) (eVar 0) (eVar 1))))
 cNil)
def F_is_below : List D → M SD D := runD 2 b_is_below
theorem d_is_below {prog : Program} {w : World} {K : PySem.W.Frag} {mg : Str → Option Value} {base : Heap} {T : Nat → Option Addr} {tb : Addr → Prop} (B : Free mg) (H_is_integer : Known prog w K mg base T (Wdk dkk tb) 1 "is_integer" 1 F_is_integer)
    {cdv : Value} {a : Addr} {A : Around} {outer : List Env} {s : Shared} {H : Hp} {E : XK} (hr : Room 1 (A.deeper (envOfC "is_below" (defScope s_is_below) s.heap.objs.size a (cdv)))) (hg : (A.deeper (envOfC "is_below" (defScope s_is_below) s.heap.objs.size a (cdv))).guards = some []) :
    DSs (cxOf Ev.CX0 prog w K mg base N_is_below "is_below" (defScope s_is_below) a (cdv) A outer s H E) T (Wdk dkk tb) (defBody s_is_below) b_is_below :=
 (ds_cons (ds_ret (de_and (de_call hg (H_is_integer.to hr) rfl (da_cons (v_ 0) da_nil) (lenC lenN)) (de_one (de_chain .le .lt (room_u hr) de_int (v_ 0) (v_ 1) rfl))))
 ds_nil)
/-! ### is_kinds -/
abbrev s_is_kinds : Stmt := top 20
abbrev N_is_kinds : List Str := ["thing", "n", "item"]
abbrev P_is_kinds : List Str := ["thing", "n"]
theorem sc_is_kinds : FnScope N_is_kinds P_is_kinds (defScope s_is_kinds) := ⟨rfl, rfl, rfl, by decide +kernel, rfl, by decide +kernel, by decide +kernel⟩
def b_is_kinds : TSv SD :=
 (cCons (cRet (eAnd (eIsi .isTuple (eVar 0)) (eAll [2] (wIt (eVar 0)) (allBody (.name 2) (eCall F_is_below (sCons (eVar 2) (sCons (eVar 1) sNil)))))))
 cNil)
def F_is_kinds : List D → M SD D := runD 3 b_is_kinds
theorem d_is_kinds {prog : Program} {w : World} {K : PySem.W.Frag} {mg : Str → Option Value} {base : Heap} {T : Nat → Option Addr} {tb : Addr → Prop} (B : Free mg) (H_is_below : Known prog w K mg base T (Wdk dkk tb) 2 "is_below" 2 F_is_below)
    {c Pt : Addr} (TB : GxR.TabB base mg c Pt) (htb : tb Pt) {a : Addr} {A : Around} {outer : List Env} {s : Shared} {H : Hp} {E : XK} (hr : Room 3 (A.deeper (envOfC "is_kinds" (defScope s_is_kinds) s.heap.objs.size a (.ref c)))) (hg : (A.deeper (envOfC "is_kinds" (defScope s_is_kinds) s.heap.objs.size a (.ref c))).guards = some []) :
    DSs (cxOf Ev.CX0 prog w K mg base N_is_kinds "is_kinds" (defScope s_is_kinds) a (.ref c) A outer s H E) T (Wdk dkk tb) (defBody s_is_kinds) b_is_kinds :=
 (ds_cons (ds_ret (de_and (de_isi .isTuple (by decide) rfl B.b_isinstance (by kernel_rfl) rfl B.b_tuple (by kernel_rfl) (v_ 0)) (de_one (de_all (k := 2) (own := [("item", 2)]) hr hg rfl sc_is_kinds.nd rfl B.b_all TB rfl htb (gen_by (by kernel_rfl)) (di_it (v_ 0)) (turns1 (g := (.name 2)) rfl rfl (by decide) (fun _ _ _ _ _ _ _ => (g_ 2 sc_is_kinds.nd)) (fun _ _ _ _ _ _ _ hr hg => (de_call hg (H_is_below.to hr) rfl (da_cons (v_ 2) (da_cons (v_ 1) da_nil)) (lenC (lenC lenN)))))))))
 ds_nil)
/-! ### is_pair -/
abbrev s_is_pair : Stmt := top 26
abbrev N_is_pair : List Str := ["thing", "n"]
abbrev P_is_pair : List Str := ["thing", "n"]
theorem sc_is_pair : FnScope N_is_pair P_is_pair (defScope s_is_pair) := ⟨rfl, rfl, rfl, by decide +kernel, rfl, by decide +kernel, by decide +kernel⟩
def b_is_pair : TSv SD :=
 (cCons (cRet (eAnd (eCall F_is_kinds (sCons (eVar 0) (sCons (eVar 1) sNil))) (eCmp .eq (eBi .len (sCons (eVar 0) sNil)) (eK (.int 2)))))
 cNil)
def F_is_pair : List D → M SD D := runD 2 b_is_pair
theorem d_is_pair {prog : Program} {w : World} {K : PySem.W.Frag} {mg : Str → Option Value} {base : Heap} {T : Nat → Option Addr} {tb : Addr → Prop} (B : Free mg) (H_is_kinds : Known prog w K mg base T (Wdk dkk tb) 4 "is_kinds" 2 F_is_kinds)
    {cdv : Value} {a : Addr} {A : Around} {outer : List Env} {s : Shared} {H : Hp} {E : XK} (hr : Room 4 (A.deeper (envOfC "is_pair" (defScope s_is_pair) s.heap.objs.size a (cdv)))) (hg : (A.deeper (envOfC "is_pair" (defScope s_is_pair) s.heap.objs.size a (cdv))).guards = some []) :
    DSs (cxOf Ev.CX0 prog w K mg base N_is_pair "is_pair" (defScope s_is_pair) a (cdv) A outer s H E) T (Wdk dkk tb) (defBody s_is_pair) b_is_pair :=
 (ds_cons (ds_ret (de_and (de_call hg (H_is_kinds.to hr) rfl (da_cons (v_ 0) (da_cons (v_ 1) da_nil)) (lenC (lenC lenN))) (de_one (de_cmp .eq (room_u hr) (de_biF .len (room_u hr) hg rfl rfl B.b_len (by kernel_rfl) rfl (da_cons (v_ 0) da_nil)) de_int rfl))))
 ds_nil)
/-! ### is_table -/
abbrev s_is_table : Stmt := top 27
abbrev N_is_table : List Str := ["thing", "row", "pair"]
abbrev P_is_table : List Str := ["thing"]
theorem sc_is_table : FnScope N_is_table P_is_table (defScope s_is_table) := ⟨rfl, rfl, rfl, by decide +kernel, rfl, by decide +kernel, by decide +kernel⟩
def b_is_table : TSv SD :=
 (cCons (cIf (qNot (qVal (eCall F_is_rows (sCons (eVar 0) sNil)))) (cCons (cRet (eK (.bl false)))
 cNil) cNil)
 (cCons (cRet (eAll [1, 2] (wIt (eVar 0)) (allBody2 (.name 1) (wIt (eVar 1)) (allBody (.name 2) (eCall F_is_pair (sCons (eVar 2) (sCons (eBi .len (sCons (eVar 0) sNil)) sNil)))))))
 cNil))
def F_is_table : List D → M SD D := runD 3 b_is_table
theorem d_is_table {prog : Program} {w : World} {K : PySem.W.Frag} {mg : Str → Option Value} {base : Heap} {T : Nat → Option Addr} {tb : Addr → Prop} (B : Free mg) (H_is_rows : Known prog w K mg base T (Wdk dkk tb) 3 "is_rows" 1 F_is_rows) (H_is_pair : Known prog w K mg base T (Wdk dkk tb) 5 "is_pair" 2 F_is_pair)
    {c Pt : Addr} (TB : GxR.TabB base mg c Pt) (htb : tb Pt) {a : Addr} {A : Around} {outer : List Env} {s : Shared} {H : Hp} {E : XK} (hr : Room 6 (A.deeper (envOfC "is_table" (defScope s_is_table) s.heap.objs.size a (.ref c)))) (hg : (A.deeper (envOfC "is_table" (defScope s_is_table) s.heap.objs.size a (.ref c))).guards = some []) :
    DSs (cxOf Ev.CX0 prog w K mg base N_is_table "is_table" (defScope s_is_table) a (.ref c) A outer s H E) T (Wdk dkk tb) (defBody s_is_table) b_is_table :=
 (ds_cons (ds_if (dt_not (dt_val (de_call hg (H_is_rows.to hr) rfl (da_cons (v_ 0) da_nil) (lenC lenN)) (fun _ => rfl))) (ds_cons (ds_ret de_bl)
 ds_nil) ds_nil)
 (ds_cons (ds_ret (de_all (k := 5) (own := [("row", 1), ("pair", 2)]) hr hg rfl sc_is_table.nd rfl B.b_all TB rfl htb (gen_by (by kernel_rfl)) (di_it (v_ 0)) (turns2 (g := (.name 1)) (g1 := (.name 2)) rfl rfl (by decide) (by decide) (fun _ _ _ _ _ _ _ => (g_ 1 sc_is_table.nd)) (fun _ _ _ _ _ _ _ hr hg => (di_it (v_ 1))) (fun _ _ _ _ _ _ _ => (g_ 2 sc_is_table.nd)) (fun _ _ _ _ _ _ _ hr hg => (de_call hg (H_is_pair.to hr) rfl (da_cons (v_ 2) (da_cons (de_biF .len (room_u hr) hg rfl rfl B.b_len (by kernel_rfl) rfl (da_cons (v_ 0) da_nil)) da_nil)) (lenC (lenC lenN)))))))
 ds_nil))
/-! ### is_rule -/
abbrev s_is_rule : Stmt := top 35
abbrev N_is_rule : List Str := ["thing"]
abbrev P_is_rule : List Str := ["thing"]
theorem sc_is_rule : FnScope N_is_rule P_is_rule (defScope s_is_rule) := ⟨rfl, rfl, rfl, by decide +kernel, rfl, by decide +kernel, by decide +kernel⟩
def b_is_rule : TSv SD :=
 (cCons (cRet (eAnd (eCall F_is_table (sCons (eVar 0) sNil)) (eCmp .isv (eCall F_fault_of (sCons (eVar 0) sNil)) (eK .non))))
 cNil)
def F_is_rule : List D → M SD D := runD 1 b_is_rule
theorem d_is_rule {prog : Program} {w : World} {K : PySem.W.Frag} {mg : Str → Option Value} {base : Heap} {T : Nat → Option Addr} {tb : Addr → Prop} (B : Free mg) (H_fault_of : Known prog w K mg base T (Wdk dkk tb) 3 "fault_of" 1 F_fault_of) (H_is_table : Known prog w K mg base T (Wdk dkk tb) 7 "is_table" 1 F_is_table)
    {cdv : Value} {a : Addr} {A : Around} {outer : List Env} {s : Shared} {H : Hp} {E : XK} (hr : Room 7 (A.deeper (envOfC "is_rule" (defScope s_is_rule) s.heap.objs.size a (cdv)))) (hg : (A.deeper (envOfC "is_rule" (defScope s_is_rule) s.heap.objs.size a (cdv))).guards = some []) :
    DSs (cxOf Ev.CX0 prog w K mg base N_is_rule "is_rule" (defScope s_is_rule) a (cdv) A outer s H E) T (Wdk dkk tb) (defBody s_is_rule) b_is_rule :=
 (ds_cons (ds_ret (de_and (de_call hg (H_is_table.to hr) rfl (da_cons (v_ 0) da_nil) (lenC lenN)) (de_one (de_cmp .isv (room_u hr) (de_call hg (H_fault_of.to hr) rfl (da_cons (v_ 0) da_nil) (lenC lenN)) de_non rfl))))
 ds_nil)
/-! ### need_rule -/
abbrev s_need_rule : Stmt := top 36
abbrev N_need_rule : List Str := ["rule"]
abbrev P_need_rule : List Str := ["rule"]
theorem sc_need_rule : FnScope N_need_rule P_need_rule (defScope s_need_rule) := ⟨rfl, rfl, rfl, by decide +kernel, rfl, by decide +kernel, by decide +kernel⟩
def b_need_rule : TSv SD :=
 (cCons (cIf (qNot (qVal (eCall F_is_rule (sCons (eVar 0) sNil)))) (cCons cNever
 cNil) cNil)
 cNil)
def F_need_rule : List D → M SD D := runD 1 b_need_rule
theorem d_need_rule {prog : Program} {w : World} {K : PySem.W.Frag} {mg : Str → Option Value} {base : Heap} {T : Nat → Option Addr} {tb : Addr → Prop} (B : Free mg) (H_is_rule : Known prog w K mg base T (Wdk dkk tb) 8 "is_rule" 1 F_is_rule)
    {cdv : Value} {a : Addr} {A : Around} {outer : List Env} {s : Shared} {H : Hp} {E : XK} (hr : Room 8 (A.deeper (envOfC "need_rule" (defScope s_need_rule) s.heap.objs.size a (cdv)))) (hg : (A.deeper (envOfC "need_rule" (defScope s_need_rule) s.heap.objs.size a (cdv))).guards = some []) :
    DSs (cxOf Ev.CX0 prog w K mg base N_need_rule "need_rule" (defScope s_need_rule) a (cdv) A outer s H E) T (Wdk dkk tb) (defBody s_need_rule) b_need_rule :=
 (ds_cons (ds_if (dt_not (dt_val (de_call hg (H_is_rule.to hr) rfl (da_cons (v_ 0) da_nil) (lenC lenN)) (fun _ => rfl))) (ds_cons ds_never
 ds_nil) ds_nil)
 ds_nil)
/-! ### is_heap -/
abbrev s_is_heap : Stmt := top 21
abbrev N_is_heap : List Str := ["thing", "n", "item"]
abbrev P_is_heap : List Str := ["thing", "n"]
theorem sc_is_heap : FnScope N_is_heap P_is_heap (defScope s_is_heap) := ⟨rfl, rfl, rfl, by decide +kernel, rfl, by decide +kernel, by decide +kernel⟩
def b_is_heap : TSv SD :=
 (cCons (cRet (eAnd (eIsi .isTuple (eVar 0)) (eAnd (eCmp .eq (eBi .len (sCons (eVar 0) sNil)) (eVar 1)) (eAll [2] (wIt (eVar 0)) (allBody (.name 2) (eCall F_is_integer (sCons (eVar 2) sNil)))))))
 cNil)
def F_is_heap : List D → M SD D := runD 3 b_is_heap
theorem d_is_heap {prog : Program} {w : World} {K : PySem.W.Frag} {mg : Str → Option Value} {base : Heap} {T : Nat → Option Addr} {tb : Addr → Prop} (B : Free mg) (H_is_integer : Known prog w K mg base T (Wdk dkk tb) 1 "is_integer" 1 F_is_integer)
    {c Pt : Addr} (TB : GxR.TabB base mg c Pt) (htb : tb Pt) {a : Addr} {A : Around} {outer : List Env} {s : Shared} {H : Hp} {E : XK} (hr : Room 2 (A.deeper (envOfC "is_heap" (defScope s_is_heap) s.heap.objs.size a (.ref c)))) (hg : (A.deeper (envOfC "is_heap" (defScope s_is_heap) s.heap.objs.size a (.ref c))).guards = some []) :
    DSs (cxOf Ev.CX0 prog w K mg base N_is_heap "is_heap" (defScope s_is_heap) a (.ref c) A outer s H E) T (Wdk dkk tb) (defBody s_is_heap) b_is_heap :=
 (ds_cons (ds_ret (de_and (de_isi .isTuple (by decide) rfl B.b_isinstance (by kernel_rfl) rfl B.b_tuple (by kernel_rfl) (v_ 0)) (de_and (de_cmp .eq (room_u hr) (de_biF .len (room_u hr) hg rfl rfl B.b_len (by kernel_rfl) rfl (da_cons (v_ 0) da_nil)) (v_ 1) rfl) (de_one (de_all (k := 1) (own := [("item", 2)]) hr hg rfl sc_is_heap.nd rfl B.b_all TB rfl htb (gen_by (by kernel_rfl)) (di_it (v_ 0)) (turns1 (g := (.name 2)) rfl rfl (by decide) (fun _ _ _ _ _ _ _ => (g_ 2 sc_is_heap.nd)) (fun _ _ _ _ _ _ _ hr hg => (de_call hg (H_is_integer.to hr) rfl (da_cons (v_ 2) da_nil) (lenC lenN)))))))))
 ds_nil)
/-! ### is_full_heap -/
abbrev s_is_full_heap : Stmt := top 22
abbrev N_is_full_heap : List Str := ["thing", "n", "item"]
abbrev P_is_full_heap : List Str := ["thing", "n"]
theorem sc_is_full_heap : FnScope N_is_full_heap P_is_full_heap (defScope s_is_full_heap) := ⟨rfl, rfl, rfl, by decide +kernel, rfl, by decide +kernel, by decide +kernel⟩
def b_is_full_heap : TSv SD :=
 (cCons (cRet (eAnd (eCall F_is_heap (sCons (eVar 0) (sCons (eVar 1) sNil))) (eAll [2] (wIt (eVar 0)) (allBody (.name 2) (eCmp .ge (eVar 2) (eK (.int 0)))))))
 cNil)
def F_is_full_heap : List D → M SD D := runD 3 b_is_full_heap
theorem d_is_full_heap {prog : Program} {w : World} {K : PySem.W.Frag} {mg : Str → Option Value} {base : Heap} {T : Nat → Option Addr} {tb : Addr → Prop} (B : Free mg) (H_is_heap : Known prog w K mg base T (Wdk dkk tb) 3 "is_heap" 2 F_is_heap)
    {c Pt : Addr} (TB : GxR.TabB base mg c Pt) (htb : tb Pt) {a : Addr} {A : Around} {outer : List Env} {s : Shared} {H : Hp} {E : XK} (hr : Room 3 (A.deeper (envOfC "is_full_heap" (defScope s_is_full_heap) s.heap.objs.size a (.ref c)))) (hg : (A.deeper (envOfC "is_full_heap" (defScope s_is_full_heap) s.heap.objs.size a (.ref c))).guards = some []) :
    DSs (cxOf Ev.CX0 prog w K mg base N_is_full_heap "is_full_heap" (defScope s_is_full_heap) a (.ref c) A outer s H E) T (Wdk dkk tb) (defBody s_is_full_heap) b_is_full_heap :=
 (ds_cons (ds_ret (de_and (de_call hg (H_is_heap.to hr) rfl (da_cons (v_ 0) (da_cons (v_ 1) da_nil)) (lenC (lenC lenN))) (de_one (de_all (k := 2) (own := [("item", 2)]) hr hg rfl sc_is_full_heap.nd rfl B.b_all TB rfl htb (gen_by (by kernel_rfl)) (di_it (v_ 0)) (turns1 (g := (.name 2)) rfl rfl (by decide) (fun _ _ _ _ _ _ _ => (g_ 2 sc_is_full_heap.nd)) (fun _ _ _ _ _ _ _ hr hg => (de_cmp .ge (room_u hr) (v_ 2) de_int rfl)))))))
 ds_nil)
/-! ### identity -/
abbrev s_identity : Stmt := top 2
abbrev N_identity : List Str := ["n"]
abbrev P_identity : List Str := ["n"]
theorem sc_identity : FnScope N_identity P_identity (defScope s_identity) := ⟨rfl, rfl, rfl, by decide +kernel, rfl, by decide +kernel, by decide +kernel⟩
def b_identity : TSv SD :=
 (cCons (cRet (eBi .tuple (sCons (eBi .range1 (sCons (eVar 0) sNil)) sNil)))
 cNil)
def F_identity : List D → M SD D := runD 1 b_identity
theorem d_identity {prog : Program} {w : World} {K : PySem.W.Frag} {mg : Str → Option Value} {base : Heap} {T : Nat → Option Addr} {tb : Addr → Prop} (B : Free mg) 
    {cdv : Value} {a : Addr} {A : Around} {outer : List Env} {s : Shared} {H : Hp} {E : XK} (hr : Room 0 (A.deeper (envOfC "identity" (defScope s_identity) s.heap.objs.size a (cdv)))) (hg : (A.deeper (envOfC "identity" (defScope s_identity) s.heap.objs.size a (cdv))).guards = some []) :
    DSs (cxOf Ev.CX0 prog w K mg base N_identity "identity" (defScope s_identity) a (cdv) A outer s H E) T (Wdk dkk tb) (defBody s_identity) b_identity :=
 (ds_cons (ds_ret (de_biT .tuple (room_u hr) hg rfl rfl B.b_tuple (by kernel_rfl) rfl (da_cons (de_biT .range1 (room_u hr) hg rfl rfl B.b_range (by kernel_rfl) rfl (da_cons (v_ 0) da_nil)) da_nil)))
 ds_nil)
/-! ### after -/
abbrev s_after : Stmt := top 3
abbrev N_after : List Str := ["one", "other", "kind"]
abbrev P_after : List Str := ["one", "other"]
theorem sc_after : FnScope N_after P_after (defScope s_after) := ⟨rfl, rfl, rfl, by decide +kernel, rfl, by decide +kernel, by decide +kernel⟩
def b_after : TSv SD :=
 (cCons (cRet (eBi .tuple (sCons (eLc [2] (.name 2) (wIt (eVar 1)) qYes (eIdx (eVar 0) (eVar 2))) sNil)))
 cNil)
def F_after : List D → M SD D := runD 3 b_after
theorem d_after {prog : Program} {w : World} {K : PySem.W.Frag} {mg : Str → Option Value} {base : Heap} {T : Nat → Option Addr} {tb : Addr → Prop} (B : Free mg) 
    {cdv : Value} {a : Addr} {A : Around} {outer : List Env} {s : Shared} {H : Hp} {E : XK} (hr : Room 0 (A.deeper (envOfC "after" (defScope s_after) s.heap.objs.size a (cdv)))) (hg : (A.deeper (envOfC "after" (defScope s_after) s.heap.objs.size a (cdv))).guards = some []) :
    DSs (cxOf Ev.CX0 prog w K mg base N_after "after" (defScope s_after) a (cdv) A outer s H E) T (Wdk dkk tb) (defBody s_after) b_after :=
 (ds_cons (ds_ret (de_biT .tuple (room_u hr) hg rfl rfl B.b_tuple (by kernel_rfl) rfl (da_cons (de_lc (own := [("kind", 2)]) rfl sc_after.nd (di_it (v_ 1)) (blkOk_by (own := [("kind", 2)]) (by kernel_rfl)) (g := (.name 2)) (by decide) (fun _ _ _ _ _ => (g_ 2 sc_after.nd)) (fun _ _ _ _ _ => dts_nil) (fun _ _ _ _ _ => (de_idx (v_ 0) (v_ 2) (fun _ _ => rfl)))) da_nil)))
 ds_nil)
/-! ### first_by -/
abbrev s_first_by : Stmt := top 10
abbrev N_first_by : List Str := ["lefts", "heap", "found", "left", "turn", "_", "kind"]
abbrev P_first_by : List Str := ["lefts", "heap"]
theorem sc_first_by : FnScope N_first_by P_first_by (defScope s_first_by) := ⟨rfl, rfl, rfl, by decide +kernel, rfl, by decide +kernel, by decide +kernel⟩
def b_first_by : TSv SD :=
 (cCons (cPar3 2 3 4 (eLst sNil) (eBi .list (sCons (eVar 1) sNil)) (eCall F_identity (sCons (eBi .len (sCons (eVar 0) sNil)) sNil)))
 (cCons (cFor (.name 5) (wR1 (eOp opSum2 (sCons (eVar 1) sNil))) (cCons (cSet 6 (eOp opMin2 (sCons (eLc [6] (.name 6) (wIt (eVar 4)) (qVal (eCmp .gt (eIdx (eVar 3) (eIdx (eVar 4) (eVar 6))) (eK (.int 0)))) (eVar 6)) sNil)))
 (cCons (cAugAt 3 (eIdx (eVar 4) (eVar 6)) .sub (eK (.int 1)))
 (cCons (cDrop (eApp 2 (eVar 6)))
 (cCons (cSet 4 (eCall F_after (sCons (eVar 4) (sCons (eIdx (eVar 0) (eVar 6)) sNil))))
 cNil)))))
 (cCons (cRet (eBi .tuple (sCons (eVar 2) sNil)))
 cNil)))
def F_first_by : List D → M SD D := runD 7 b_first_by
theorem d_first_by {prog : Program} {w : World} {K : PySem.W.Frag} {mg : Str → Option Value} {base : Heap} {T : Nat → Option Addr} {tb : Addr → Prop} (B : Free mg) (H_identity : Known prog w K mg base T (Wdk dkk tb) 1 "identity" 1 F_identity) (H_after : Known prog w K mg base T (Wdk dkk tb) 1 "after" 2 F_after)
    {cdv : Value} {a : Addr} {A : Around} {outer : List Env} {s : Shared} {H : Hp} {E : XK} (hr : Room 1 (A.deeper (envOfC "first_by" (defScope s_first_by) s.heap.objs.size a (cdv)))) (hg : (A.deeper (envOfC "first_by" (defScope s_first_by) s.heap.objs.size a (cdv))).guards = some []) :
    DSs (cxOf Ev.CX0 prog w K mg base N_first_by "first_by" (defScope s_first_by) a (cdv) A outer s H E) T (Wdk dkk tb) (defBody s_first_by) b_first_by :=
 (ds_cons (ds_par3U (i := 2) (j := 3) (l := 4) rfl sc_first_by.nd rfl rfl rfl (by decide) (by decide) (by decide) (by first | exact .inl rfl | exact .inr rfl) (by first | exact .inl rfl | exact .inr rfl) (by first | exact .inl rfl | exact .inr rfl) (by first | exact .inl rfl | exact .inr rfl) (by first | exact .inl rfl | exact .inr rfl) (by first | exact .inl rfl | exact .inr rfl) (de_lst da_nil) (de_biT .list (room_u hr) hg rfl rfl B.b_list (by kernel_rfl) rfl (da_cons (v_ 1) da_nil)) (de_call hg (H_identity.to hr) rfl (da_cons (de_biF .len (room_u hr) hg rfl rfl B.b_len (by kernel_rfl) rfl (da_cons (v_ 0) da_nil)) da_nil) (lenC lenN)))
 (ds_cons (ds_for own_cx rfl (di_r1 rfl B.b_range (de_opF sum2_ok ((cr_sum rfl).or (cr_sumT rfl)) rfl B.b_sum (by kernel_rfl) (da_cons (v_ 1) da_nil))) (g_ 5 sc_first_by.nd) (ds_cons (set_ 6 sc_first_by.nd (de_opF min2_ok ((cr_min rfl).or (cr_minP rfl (room_u hr))) rfl B.b_min (by kernel_rfl) (da_cons (de_lc (own := [("kind", 6)]) rfl sc_first_by.nd (di_it (v_ 4)) (blkOk_by (own := [("kind", 6)]) (by kernel_rfl)) (g := (.name 6)) (by decide) (fun _ _ _ _ _ => (g_ 6 sc_first_by.nd)) (fun _ _ _ _ _ => (dts_one (dt_cmp .gt (room_u hr) (de_idx (v_ 3) (de_idx (v_ 4) (v_ 6) (fun _ _ => rfl)) (fun _ _ => rfl)) de_int rfl))) (fun _ _ _ _ _ => (v_ 6))) da_nil)))
 (ds_cons (ds_augAt .sub (i := 3) rfl (by first | exact .inl rfl | exact .inr (.inl rfl) | exact .inr (.inr rfl)) de_int (de_idx (v_ 4) (v_ 6) (fun _ _ => rfl)))
 (ds_cons (ds_drop (de_app (i := 2) rfl (by first | exact .inl rfl | exact .inr (.inl rfl) | exact .inr (.inr rfl)) (v_ 6)))
 (ds_cons (set_ 4 sc_first_by.nd (de_call hg (H_after.to hr) rfl (da_cons (v_ 4) (da_cons (de_idx (v_ 0) (v_ 6) (fun _ _ => rfl)) da_nil)) (lenC (lenC lenN))))
 ds_nil)))))
 (ds_cons (ds_ret (de_biT .tuple (room_u hr) hg rfl rfl B.b_tuple (by kernel_rfl) rfl (da_cons (v_ 2) da_nil)))
 ds_nil)))
/-! ### lefts_of -/
abbrev s_lefts_of : Stmt := top 5
abbrev N_lefts_of : List Str := ["table", "row", "pair"]
abbrev P_lefts_of : List Str := ["table"]
theorem sc_lefts_of : FnScope N_lefts_of P_lefts_of (defScope s_lefts_of) := ⟨rfl, rfl, rfl, by decide +kernel, rfl, by decide +kernel, by decide +kernel⟩
def b_lefts_of : TSv SD :=
 (cCons (cRet (eBi .tuple (sCons (eLc [1] (.name 1) (wIt (eVar 0)) qYes (eBi .tuple (sCons (eLc [2] (.name 2) (wIt (eVar 1)) qYes (eIdx (eVar 2) (eK (.int 0)))) sNil))) sNil)))
 cNil)
def F_lefts_of : List D → M SD D := runD 3 b_lefts_of
theorem d_lefts_of {prog : Program} {w : World} {K : PySem.W.Frag} {mg : Str → Option Value} {base : Heap} {T : Nat → Option Addr} {tb : Addr → Prop} (B : Free mg) 
    {cdv : Value} {a : Addr} {A : Around} {outer : List Env} {s : Shared} {H : Hp} {E : XK} (hr : Room 0 (A.deeper (envOfC "lefts_of" (defScope s_lefts_of) s.heap.objs.size a (cdv)))) (hg : (A.deeper (envOfC "lefts_of" (defScope s_lefts_of) s.heap.objs.size a (cdv))).guards = some []) :
    DSs (cxOf Ev.CX0 prog w K mg base N_lefts_of "lefts_of" (defScope s_lefts_of) a (cdv) A outer s H E) T (Wdk dkk tb) (defBody s_lefts_of) b_lefts_of :=
 (ds_cons (ds_ret (de_biT .tuple (room_u hr) hg rfl rfl B.b_tuple (by kernel_rfl) rfl (da_cons (de_lc (own := [("row", 1)]) rfl sc_lefts_of.nd (di_it (v_ 0)) (blkOk_by (own := [("row", 1)]) (by kernel_rfl)) (g := (.name 1)) (by decide) (fun _ _ _ _ _ => (g_ 1 sc_lefts_of.nd)) (fun _ _ _ _ _ => dts_nil) (fun _ _ _ _ _ => (de_biT .tuple (room_u hr) hg rfl rfl B.b_tuple (by kernel_rfl) rfl (da_cons (de_lc (own := [("pair", 2)]) rfl sc_lefts_of.nd (di_it (v_ 1)) (blkOk_by (own := [("pair", 2)]) (by kernel_rfl)) (g := (.name 2)) (by decide) (fun _ _ _ _ _ => (g_ 2 sc_lefts_of.nd)) (fun _ _ _ _ _ => dts_nil) (fun _ _ _ _ _ => (de_idx (v_ 2) de_int (fun _ _ => rfl)))) da_nil)))) da_nil)))
 ds_nil)
/-! ### first_row -/
abbrev s_first_row : Stmt := top 41
abbrev N_first_row : List Str := ["rule", "heap"]
abbrev P_first_row : List Str := ["rule", "heap"]
theorem sc_first_row : FnScope N_first_row P_first_row (defScope s_first_row) := ⟨rfl, rfl, rfl, by decide +kernel, rfl, by decide +kernel, by decide +kernel⟩
def b_first_row : TSv SD :=
 (cCons (cDrop (eCall F_need_rule (sCons (eVar 0) sNil)))
 (cCons (cIf (qNot (qVal (eCall F_is_full_heap (sCons (eVar 1) (sCons (eBi .len (sCons (eVar 0) sNil)) sNil))))) (cCons cNever
 cNil) cNil)
 (cCons (cRet (eCall F_first_by (sCons (eCall F_lefts_of (sCons (eVar 0) sNil)) (sCons (eVar 1) sNil))))
 cNil)))
def F_first_row : List D → M SD D := runD 2 b_first_row
theorem d_first_row {prog : Program} {w : World} {K : PySem.W.Frag} {mg : Str → Option Value} {base : Heap} {T : Nat → Option Addr} {tb : Addr → Prop} (B : Free mg) (H_need_rule : Known prog w K mg base T (Wdk dkk tb) 9 "need_rule" 1 F_need_rule) (H_is_full_heap : Known prog w K mg base T (Wdk dkk tb) 4 "is_full_heap" 2 F_is_full_heap) (H_first_by : Known prog w K mg base T (Wdk dkk tb) 2 "first_by" 2 F_first_by) (H_lefts_of : Known prog w K mg base T (Wdk dkk tb) 1 "lefts_of" 1 F_lefts_of)
    {cdv : Value} {a : Addr} {A : Around} {outer : List Env} {s : Shared} {H : Hp} {E : XK} (hr : Room 9 (A.deeper (envOfC "first_row" (defScope s_first_row) s.heap.objs.size a (cdv)))) (hg : (A.deeper (envOfC "first_row" (defScope s_first_row) s.heap.objs.size a (cdv))).guards = some []) :
    DSs (cxOf Ev.CX0 prog w K mg base N_first_row "first_row" (defScope s_first_row) a (cdv) A outer s H E) T (Wdk dkk tb) (defBody s_first_row) b_first_row :=
 (ds_cons (ds_drop (de_call hg (H_need_rule.to hr) rfl (da_cons (v_ 0) da_nil) (lenC lenN)))
 (ds_cons (ds_if (dt_not (dt_val (de_call hg (H_is_full_heap.to hr) rfl (da_cons (v_ 1) (da_cons (de_biF .len (room_u hr) hg rfl rfl B.b_len (by kernel_rfl) rfl (da_cons (v_ 0) da_nil)) da_nil)) (lenC (lenC lenN))) (fun _ => rfl))) (ds_cons ds_never
 ds_nil) ds_nil)
 (ds_cons (ds_ret (de_call hg (H_first_by.to hr) rfl (da_cons (de_call hg (H_lefts_of.to hr) rfl (da_cons (v_ 0) da_nil) (lenC lenN)) (da_cons (v_ 1) da_nil)) (lenC (lenC lenN))))
 ds_nil)))
/-! ### _law_same -/
abbrev s__law_same : Stmt := top 59
abbrev N__law_same : List Str := ["told", "due"]
abbrev P__law_same : List Str := ["told", "due"]
theorem sc__law_same : FnScope N__law_same P__law_same (defScope s__law_same) := ⟨rfl, rfl, rfl, by decide +kernel, rfl, by decide +kernel, by decide +kernel⟩
def b__law_same : TSv SD :=
 (cCons (cRet (eCmp .eq (eBi .repr (sCons (eVar 0) sNil)) (eBi .repr (sCons (eVar 1) sNil))))
 cNil)
def F__law_same : List D → M SD D := runD 2 b__law_same
theorem d__law_same {prog : Program} {w : World} {K : PySem.W.Frag} {mg : Str → Option Value} {base : Heap} {T : Nat → Option Addr} {tb : Addr → Prop} (B : Free mg) 
    {cdv : Value} {a : Addr} {A : Around} {outer : List Env} {s : Shared} {H : Hp} {E : XK} (hr : Room 0 (A.deeper (envOfC "_law_same" (defScope s__law_same) s.heap.objs.size a (cdv)))) (hg : (A.deeper (envOfC "_law_same" (defScope s__law_same) s.heap.objs.size a (cdv))).guards = some []) :
    DSs (cxOf Ev.CX0 prog w K mg base N__law_same "_law_same" (defScope s__law_same) a (cdv) A outer s H E) T (Wdk dkk tb) (defBody s__law_same) b__law_same :=
 (ds_cons (ds_ret (de_cmp .eq (room_u hr) (de_biF .repr (room_u hr) hg rfl rfl B.b_repr (by kernel_rfl) rfl (da_cons (v_ 0) da_nil)) (de_biF .repr (room_u hr) hg rfl rfl B.b_repr (by kernel_rfl) rfl (da_cons (v_ 1) da_nil)) rfl))
 ds_nil)
/-! ### _law_is_least -/
abbrev s__law_is_least : Stmt := top 60
abbrev N__law_is_least : List Str := ["lefts", "heap", "row", "turn", "left", "x", "other"]
abbrev P__law_is_least : List Str := ["lefts", "heap", "row"]
theorem sc__law_is_least : FnScope N__law_is_least P__law_is_least (defScope s__law_is_least) := ⟨rfl, rfl, rfl, by decide +kernel, rfl, by decide +kernel, by decide +kernel⟩
def b__law_is_least : TSv SD :=
 (cCons (cPar 3 4 (eBi .tuple (sCons (eBi .range1 (sCons (eBi .len (sCons (eVar 0) sNil)) sNil)) sNil)) (eBi .list (sCons (eVar 1) sNil)))
 (cCons (cIf (qOr (qNot (qVal (eIsi .isTuple (eVar 2)))) (qVal (eCmp .ne (eBi .len (sCons (eVar 2) sNil)) (eOp opSum2 (sCons (eVar 1) sNil))))) (cCons (cRet (eK (.bl false)))
 cNil) cNil)
 (cCons (cFor (.name 5) (wIt (eVar 2)) (cCons (cIf (qOr (qNot (qVal (eIsi .isInt (eVar 5)))) (qOr (qVal (eIsi .isBool (eVar 5))) (qNot (qVal (eChain .le .lt (eK (.int 0)) (eVar 5) (eBi .len (sCons (eVar 0) sNil))))))) (cCons (cRet (eK (.bl false)))
 cNil) cNil)
 (cCons (cIf (qOr (qVal (eCmp .eq (eIdx (eVar 4) (eIdx (eVar 3) (eVar 5))) (eK (.int 0)))) (qVal (eCmp .ne (eLc [6] (.name 6) (wR1 (eVar 5)) (qVal (eCmp .gt (eIdx (eVar 4) (eIdx (eVar 3) (eVar 6))) (eK (.int 0)))) (eK (.int 1))) (eLst sNil)))) (cCons (cRet (eK (.bl false)))
 cNil) cNil)
 (cCons (cPut 4 (eIdx (eVar 3) (eVar 5)) (eBin .sub (eIdx (eVar 4) (eIdx (eVar 3) (eVar 5))) (eK (.int 1))))
 (cCons (cSet 3 (eCall F__law_after (sCons (eVar 3) (sCons (eIdx (eVar 0) (eVar 5)) sNil))))
 cNil)))))
 (cCons (cRet (eK (.bl true)))
 cNil))))
def F__law_is_least : List D → M SD D := runD 7 b__law_is_least
theorem d__law_is_least {prog : Program} {w : World} {K : PySem.W.Frag} {mg : Str → Option Value} {base : Heap} {T : Nat → Option Addr} {tb : Addr → Prop} (B : Free mg) (H__law_after : Known prog w K mg base T (Wdk dkk tb) 1 "_law_after" 2 F__law_after)
    {cdv : Value} {a : Addr} {A : Around} {outer : List Env} {s : Shared} {H : Hp} {E : XK} (hr : Room 1 (A.deeper (envOfC "_law_is_least" (defScope s__law_is_least) s.heap.objs.size a (cdv)))) (hg : (A.deeper (envOfC "_law_is_least" (defScope s__law_is_least) s.heap.objs.size a (cdv))).guards = some []) :
    DSs (cxOf Ev.CX0 prog w K mg base N__law_is_least "_law_is_least" (defScope s__law_is_least) a (cdv) A outer s H E) T (Wdk dkk tb) (defBody s__law_is_least) b__law_is_least :=
 (ds_cons (ds_parU (i := 3) (j := 4) rfl sc__law_is_least.nd rfl rfl (by decide) (by first | exact .inl rfl | exact .inr rfl) (by first | exact .inl rfl | exact .inr rfl) (by first | exact .inl rfl | exact .inr rfl) (by first | exact .inl rfl | exact .inr rfl) (de_biT .tuple (room_u hr) hg rfl rfl B.b_tuple (by kernel_rfl) rfl (da_cons (de_biT .range1 (room_u hr) hg rfl rfl B.b_range (by kernel_rfl) rfl (da_cons (de_biF .len (room_u hr) hg rfl rfl B.b_len (by kernel_rfl) rfl (da_cons (v_ 0) da_nil)) da_nil)) da_nil)) (de_biT .list (room_u hr) hg rfl rfl B.b_list (by kernel_rfl) rfl (da_cons (v_ 1) da_nil)))
 (ds_cons (ds_if (dt_w (dw_or (dt_not (dt_val (de_isi .isTuple (by decide) rfl B.b_isinstance (by kernel_rfl) rfl B.b_tuple (by kernel_rfl) (v_ 2)) (fun _ => rfl))) (dw_or1 (dt_cmp .ne (room_u hr) (de_biF .len (room_u hr) hg rfl rfl B.b_len (by kernel_rfl) rfl (da_cons (v_ 2) da_nil)) (de_opF sum2_ok ((cr_sum rfl).or (cr_sumT rfl)) rfl B.b_sum (by kernel_rfl) (da_cons (v_ 1) da_nil)) rfl)))) (ds_cons (ds_ret de_bl)
 ds_nil) ds_nil)
 (ds_cons (ds_for own_cx rfl (di_it (v_ 2)) (g_ 5 sc__law_is_least.nd) (ds_cons (ds_if (dt_w (dw_or (dt_not (dt_val (de_isi .isInt (by decide) rfl B.b_isinstance (by kernel_rfl) rfl B.b_int (by kernel_rfl) (v_ 5)) (fun _ => rfl))) (dw_or (dt_val (de_isi .isBool (by decide) rfl B.b_isinstance (by kernel_rfl) rfl B.b_bool (by kernel_rfl) (v_ 5)) (fun _ => rfl)) (dw_or1 (dt_not (dt_chain .le .lt (room_u hr) de_int (v_ 5) (de_biF .len (room_u hr) hg rfl rfl B.b_len (by kernel_rfl) rfl (da_cons (v_ 0) da_nil)) rfl)))))) (ds_cons (ds_ret de_bl)
 ds_nil) ds_nil)
 (ds_cons (ds_if (dt_w (dw_or (dt_cmp .eq (room_u hr) (de_idx (v_ 4) (de_idx (v_ 3) (v_ 5) (fun _ _ => rfl)) (fun _ _ => rfl)) de_int rfl) (dw_or1 (dt_cmp .ne (room_u hr) (de_lc (own := [("other", 6)]) rfl sc__law_is_least.nd (di_r1 rfl B.b_range (v_ 5)) (blkOk_by (own := [("other", 6)]) (by kernel_rfl)) (g := (.name 6)) (by decide) (fun _ _ _ _ _ => (g_ 6 sc__law_is_least.nd)) (fun _ _ _ _ _ => (dts_one (dt_cmp .gt (room_u hr) (de_idx (v_ 4) (de_idx (v_ 3) (v_ 6) (fun _ _ => rfl)) (fun _ _ => rfl)) de_int rfl))) (fun _ _ _ _ _ => de_int)) (de_lst da_nil) rfl)))) (ds_cons (ds_ret de_bl)
 ds_nil) ds_nil)
 (ds_cons (ds_put (i := 4) rfl (by first | exact .inl rfl | exact .inr (.inl rfl) | exact .inr (.inr rfl)) (de_bin .sub (de_idx (v_ 4) (de_idx (v_ 3) (v_ 5) (fun _ _ => rfl)) (fun _ _ => rfl)) de_int) (de_idx (v_ 3) (v_ 5) (fun _ _ => rfl)))
 (ds_cons (set_ 3 sc__law_is_least.nd (de_call hg (H__law_after.to hr) rfl (da_cons (v_ 3) (da_cons (de_idx (v_ 0) (v_ 5) (fun _ _ => rfl)) da_nil)) (lenC (lenC lenN))))
 ds_nil)))))
 (ds_cons (ds_ret de_bl)
 ds_nil))))
/-! ### need_row -/
abbrev s_need_row : Stmt := top 37
abbrev N_need_row : List Str := ["rule", "row"]
abbrev P_need_row : List Str := ["rule", "row"]
theorem sc_need_row : FnScope N_need_row P_need_row (defScope s_need_row) := ⟨rfl, rfl, rfl, by decide +kernel, rfl, by decide +kernel, by decide +kernel⟩
def b_need_row : TSv SD :=
 (cCons (cIf (qNot (qVal (eCall F_is_kinds (sCons (eVar 1) (sCons (eBi .len (sCons (eVar 0) sNil)) sNil))))) (cCons cNever
 cNil) cNil)
 cNil)
def F_need_row : List D → M SD D := runD 2 b_need_row
theorem d_need_row {prog : Program} {w : World} {K : PySem.W.Frag} {mg : Str → Option Value} {base : Heap} {T : Nat → Option Addr} {tb : Addr → Prop} (B : Free mg) (H_is_kinds : Known prog w K mg base T (Wdk dkk tb) 4 "is_kinds" 2 F_is_kinds)
    {cdv : Value} {a : Addr} {A : Around} {outer : List Env} {s : Shared} {H : Hp} {E : XK} (hr : Room 4 (A.deeper (envOfC "need_row" (defScope s_need_row) s.heap.objs.size a (cdv)))) (hg : (A.deeper (envOfC "need_row" (defScope s_need_row) s.heap.objs.size a (cdv))).guards = some []) :
    DSs (cxOf Ev.CX0 prog w K mg base N_need_row "need_row" (defScope s_need_row) a (cdv) A outer s H E) T (Wdk dkk tb) (defBody s_need_row) b_need_row :=
 (ds_cons (ds_if (dt_not (dt_val (de_call hg (H_is_kinds.to hr) rfl (da_cons (v_ 1) (da_cons (de_biF .len (room_u hr) hg rfl rfl B.b_len (by kernel_rfl) rfl (da_cons (v_ 0) da_nil)) da_nil)) (lenC (lenC lenN))) (fun _ => rfl))) (ds_cons ds_never
 ds_nil) ds_nil)
 ds_nil)
/-! ### order_by -/
abbrev s_order_by : Stmt := top 6
abbrev N_order_by : List Str := ["lefts", "row", "found", "turn", "kind"]
abbrev P_order_by : List Str := ["lefts", "row"]
theorem sc_order_by : FnScope N_order_by P_order_by (defScope s_order_by) := ⟨rfl, rfl, rfl, by decide +kernel, rfl, by decide +kernel, by decide +kernel⟩
def b_order_by : TSv SD :=
 (cCons (cPar 2 3 (eLst sNil) (eCall F_identity (sCons (eBi .len (sCons (eVar 0) sNil)) sNil)))
 (cCons (cFor (.name 4) (wIt (eVar 1)) (cCons (cDrop (eApp 2 (eIdx (eVar 3) (eVar 4))))
 (cCons (cSet 3 (eCall F_after (sCons (eVar 3) (sCons (eIdx (eVar 0) (eVar 4)) sNil))))
 cNil)))
 (cCons (cRet (eTup (sCons (eBi .tuple (sCons (eVar 2) sNil)) (sCons (eVar 3) sNil))))
 cNil)))
def F_order_by : List D → M SD D := runD 5 b_order_by
theorem d_order_by {prog : Program} {w : World} {K : PySem.W.Frag} {mg : Str → Option Value} {base : Heap} {T : Nat → Option Addr} {tb : Addr → Prop} (B : Free mg) (H_identity : Known prog w K mg base T (Wdk dkk tb) 1 "identity" 1 F_identity) (H_after : Known prog w K mg base T (Wdk dkk tb) 1 "after" 2 F_after)
    {cdv : Value} {a : Addr} {A : Around} {outer : List Env} {s : Shared} {H : Hp} {E : XK} (hr : Room 1 (A.deeper (envOfC "order_by" (defScope s_order_by) s.heap.objs.size a (cdv)))) (hg : (A.deeper (envOfC "order_by" (defScope s_order_by) s.heap.objs.size a (cdv))).guards = some []) :
    DSs (cxOf Ev.CX0 prog w K mg base N_order_by "order_by" (defScope s_order_by) a (cdv) A outer s H E) T (Wdk dkk tb) (defBody s_order_by) b_order_by :=
 (ds_cons (ds_par (i := 2) (j := 3) rfl sc_order_by.nd rfl rfl (by decide) rfl rfl (de_lst da_nil) (de_call hg (H_identity.to hr) rfl (da_cons (de_biF .len (room_u hr) hg rfl rfl B.b_len (by kernel_rfl) rfl (da_cons (v_ 0) da_nil)) da_nil) (lenC lenN)) rfl)
 (ds_cons (ds_for own_cx rfl (di_it (v_ 1)) (g_ 4 sc_order_by.nd) (ds_cons (ds_drop (de_app (i := 2) rfl (by first | exact .inl rfl | exact .inr (.inl rfl) | exact .inr (.inr rfl)) (de_idx (v_ 3) (v_ 4) (fun _ _ => rfl))))
 (ds_cons (set_ 3 sc_order_by.nd (de_call hg (H_after.to hr) rfl (da_cons (v_ 3) (da_cons (de_idx (v_ 0) (v_ 4) (fun _ _ => rfl)) da_nil)) (lenC (lenC lenN))))
 ds_nil)))
 (ds_cons (ds_ret (de_tup (da_cons (de_biT .tuple (room_u hr) hg rfl rfl B.b_tuple (by kernel_rfl) rfl (da_cons (v_ 2) da_nil)) (da_cons (v_ 3) da_nil))))
 ds_nil)))
/-! ### order_of -/
abbrev s_order_of : Stmt := top 39
abbrev N_order_of : List Str := ["rule", "row"]
abbrev P_order_of : List Str := ["rule", "row"]
theorem sc_order_of : FnScope N_order_of P_order_of (defScope s_order_of) := ⟨rfl, rfl, rfl, by decide +kernel, rfl, by decide +kernel, by decide +kernel⟩
def b_order_of : TSv SD :=
 (cCons (cDrop (eCall F_need_rule (sCons (eVar 0) sNil)))
 (cCons (cDrop (eCall F_need_row (sCons (eVar 0) (sCons (eVar 1) sNil))))
 (cCons (cRet (eIdx (eCall F_order_by (sCons (eCall F_lefts_of (sCons (eVar 0) sNil)) (sCons (eVar 1) sNil))) (eK (.int 0))))
 cNil)))
def F_order_of : List D → M SD D := runD 2 b_order_of
theorem d_order_of {prog : Program} {w : World} {K : PySem.W.Frag} {mg : Str → Option Value} {base : Heap} {T : Nat → Option Addr} {tb : Addr → Prop} (B : Free mg) (H_need_rule : Known prog w K mg base T (Wdk dkk tb) 9 "need_rule" 1 F_need_rule) (H_need_row : Known prog w K mg base T (Wdk dkk tb) 5 "need_row" 2 F_need_row) (H_order_by : Known prog w K mg base T (Wdk dkk tb) 2 "order_by" 2 F_order_by) (H_lefts_of : Known prog w K mg base T (Wdk dkk tb) 1 "lefts_of" 1 F_lefts_of)
    {cdv : Value} {a : Addr} {A : Around} {outer : List Env} {s : Shared} {H : Hp} {E : XK} (hr : Room 9 (A.deeper (envOfC "order_of" (defScope s_order_of) s.heap.objs.size a (cdv)))) (hg : (A.deeper (envOfC "order_of" (defScope s_order_of) s.heap.objs.size a (cdv))).guards = some []) :
    DSs (cxOf Ev.CX0 prog w K mg base N_order_of "order_of" (defScope s_order_of) a (cdv) A outer s H E) T (Wdk dkk tb) (defBody s_order_of) b_order_of :=
 (ds_cons (ds_drop (de_call hg (H_need_rule.to hr) rfl (da_cons (v_ 0) da_nil) (lenC lenN)))
 (ds_cons (ds_drop (de_call hg (H_need_row.to hr) rfl (da_cons (v_ 0) (da_cons (v_ 1) da_nil)) (lenC (lenC lenN))))
 (ds_cons (ds_ret (de_idx (de_call hg (H_order_by.to hr) rfl (da_cons (de_call hg (H_lefts_of.to hr) rfl (da_cons (v_ 0) da_nil) (lenC lenN)) (da_cons (v_ 1) da_nil)) (lenC (lenC lenN))) de_int (fun _ _ => rfl)))
 ds_nil)))
/-! ### heap_by -/
abbrev s_heap_by : Stmt := top 7
abbrev N_heap_by : List Str := ["n", "order", "found", "kind"]
abbrev P_heap_by : List Str := ["n", "order"]
theorem sc_heap_by : FnScope N_heap_by P_heap_by (defScope s_heap_by) := ⟨rfl, rfl, rfl, by decide +kernel, rfl, by decide +kernel, by decide +kernel⟩
def b_heap_by : TSv SD :=
 (cCons (cSet 2 (eBin .mul (eLst (sCons (eK (.int 0)) sNil)) (eVar 0)))
 (cCons (cFor (.name 3) (wIt (eVar 1)) (cCons (cAugAt 2 (eVar 3) .add (eK (.int 1)))
 cNil))
 (cCons (cRet (eBi .tuple (sCons (eVar 2) sNil)))
 cNil)))
def F_heap_by : List D → M SD D := runD 4 b_heap_by
theorem d_heap_by {prog : Program} {w : World} {K : PySem.W.Frag} {mg : Str → Option Value} {base : Heap} {T : Nat → Option Addr} {tb : Addr → Prop} (B : Free mg) 
    {cdv : Value} {a : Addr} {A : Around} {outer : List Env} {s : Shared} {H : Hp} {E : XK} (hr : Room 0 (A.deeper (envOfC "heap_by" (defScope s_heap_by) s.heap.objs.size a (cdv)))) (hg : (A.deeper (envOfC "heap_by" (defScope s_heap_by) s.heap.objs.size a (cdv))).guards = some []) :
    DSs (cxOf Ev.CX0 prog w K mg base N_heap_by "heap_by" (defScope s_heap_by) a (cdv) A outer s H E) T (Wdk dkk tb) (defBody s_heap_by) b_heap_by :=
 (ds_cons (set_ 2 sc_heap_by.nd (de_bin .mul (de_lst (da_cons de_int da_nil)) (v_ 0)))
 (ds_cons (ds_for own_cx rfl (di_it (v_ 1)) (g_ 3 sc_heap_by.nd) (ds_cons (ds_augAt .add (i := 2) rfl (by first | exact .inl rfl | exact .inr (.inl rfl) | exact .inr (.inr rfl)) de_int (v_ 3))
 ds_nil))
 (ds_cons (ds_ret (de_biT .tuple (room_u hr) hg rfl rfl B.b_tuple (by kernel_rfl) rfl (da_cons (v_ 2) da_nil)))
 ds_nil)))
/-! ### heap_of -/
abbrev s_heap_of : Stmt := top 40
abbrev N_heap_of : List Str := ["rule", "row", "order"]
abbrev P_heap_of : List Str := ["rule", "row"]
theorem sc_heap_of : FnScope N_heap_of P_heap_of (defScope s_heap_of) := ⟨rfl, rfl, rfl, by decide +kernel, rfl, by decide +kernel, by decide +kernel⟩
def b_heap_of : TSv SD :=
 (cCons (cSet 2 (eCall F_order_of (sCons (eVar 0) (sCons (eVar 1) sNil))))
 (cCons (cRet (eCall F_heap_by (sCons (eBi .len (sCons (eVar 0) sNil)) (sCons (eVar 2) sNil))))
 cNil))
def F_heap_of : List D → M SD D := runD 3 b_heap_of
theorem d_heap_of {prog : Program} {w : World} {K : PySem.W.Frag} {mg : Str → Option Value} {base : Heap} {T : Nat → Option Addr} {tb : Addr → Prop} (B : Free mg) (H_order_of : Known prog w K mg base T (Wdk dkk tb) 10 "order_of" 2 F_order_of) (H_heap_by : Known prog w K mg base T (Wdk dkk tb) 1 "heap_by" 2 F_heap_by)
    {cdv : Value} {a : Addr} {A : Around} {outer : List Env} {s : Shared} {H : Hp} {E : XK} (hr : Room 10 (A.deeper (envOfC "heap_of" (defScope s_heap_of) s.heap.objs.size a (cdv)))) (hg : (A.deeper (envOfC "heap_of" (defScope s_heap_of) s.heap.objs.size a (cdv))).guards = some []) :
    DSs (cxOf Ev.CX0 prog w K mg base N_heap_of "heap_of" (defScope s_heap_of) a (cdv) A outer s H E) T (Wdk dkk tb) (defBody s_heap_of) b_heap_of :=
 (ds_cons (set_ 2 sc_heap_of.nd (de_call hg (H_order_of.to hr) rfl (da_cons (v_ 0) (da_cons (v_ 1) da_nil)) (lenC (lenC lenN))))
 (ds_cons (ds_ret (de_call hg (H_heap_by.to hr) rfl (da_cons (de_biF .len (room_u hr) hg rfl rfl B.b_len (by kernel_rfl) rfl (da_cons (v_ 0) da_nil)) (da_cons (v_ 2) da_nil)) (lenC (lenC lenN))))
 ds_nil))
/-! ### _law_read -/
abbrev s__law_read : Stmt := top 57
abbrev N__law_read : List Str := ["lefts", "row", "turn", "found", "x"]
abbrev P__law_read : List Str := ["lefts", "row"]
theorem sc__law_read : FnScope N__law_read P__law_read (defScope s__law_read) := ⟨rfl, rfl, rfl, by decide +kernel, rfl, by decide +kernel, by decide +kernel⟩
def b__law_read : TSv SD :=
 (cCons (cPar 2 3 (eBi .tuple (sCons (eBi .range1 (sCons (eBi .len (sCons (eVar 0) sNil)) sNil)) sNil)) (eLst sNil))
 (cCons (cFor (.name 4) (wIt (eVar 1)) (cCons (cDrop (eApp 3 (eIdx (eVar 2) (eVar 4))))
 (cCons (cSet 2 (eCall F__law_after (sCons (eVar 2) (sCons (eIdx (eVar 0) (eVar 4)) sNil))))
 cNil)))
 (cCons (cRet (eTup (sCons (eBi .tuple (sCons (eVar 3) sNil)) (sCons (eVar 2) sNil))))
 cNil)))
def F__law_read : List D → M SD D := runD 5 b__law_read
theorem d__law_read {prog : Program} {w : World} {K : PySem.W.Frag} {mg : Str → Option Value} {base : Heap} {T : Nat → Option Addr} {tb : Addr → Prop} (B : Free mg) (H__law_after : Known prog w K mg base T (Wdk dkk tb) 1 "_law_after" 2 F__law_after)
    {cdv : Value} {a : Addr} {A : Around} {outer : List Env} {s : Shared} {H : Hp} {E : XK} (hr : Room 1 (A.deeper (envOfC "_law_read" (defScope s__law_read) s.heap.objs.size a (cdv)))) (hg : (A.deeper (envOfC "_law_read" (defScope s__law_read) s.heap.objs.size a (cdv))).guards = some []) :
    DSs (cxOf Ev.CX0 prog w K mg base N__law_read "_law_read" (defScope s__law_read) a (cdv) A outer s H E) T (Wdk dkk tb) (defBody s__law_read) b__law_read :=
 (ds_cons (ds_par (i := 2) (j := 3) rfl sc__law_read.nd rfl rfl (by decide) rfl rfl (de_biT .tuple (room_u hr) hg rfl rfl B.b_tuple (by kernel_rfl) rfl (da_cons (de_biT .range1 (room_u hr) hg rfl rfl B.b_range (by kernel_rfl) rfl (da_cons (de_biF .len (room_u hr) hg rfl rfl B.b_len (by kernel_rfl) rfl (da_cons (v_ 0) da_nil)) da_nil)) da_nil)) (de_lst da_nil) rfl)
 (ds_cons (ds_for own_cx rfl (di_it (v_ 1)) (g_ 4 sc__law_read.nd) (ds_cons (ds_drop (de_app (i := 3) rfl (by first | exact .inl rfl | exact .inr (.inl rfl) | exact .inr (.inr rfl)) (de_idx (v_ 2) (v_ 4) (fun _ _ => rfl))))
 (ds_cons (set_ 2 sc__law_read.nd (de_call hg (H__law_after.to hr) rfl (da_cons (v_ 2) (da_cons (de_idx (v_ 0) (v_ 4) (fun _ _ => rfl)) da_nil)) (lenC (lenC lenN))))
 ds_nil)))
 (ds_cons (ds_ret (de_tup (da_cons (de_biT .tuple (room_u hr) hg rfl rfl B.b_tuple (by kernel_rfl) rfl (da_cons (v_ 3) da_nil)) (da_cons (v_ 2) da_nil))))
 ds_nil)))
/-! ### _law_line -/
abbrev s__law_line : Stmt := top 61
abbrev N__law_line : List Str := ["heap", "found", "y", "many"]
abbrev P__law_line : List Str := ["heap"]
theorem sc__law_line : FnScope N__law_line P__law_line (defScope s__law_line) := ⟨rfl, rfl, rfl, by decide +kernel, rfl, by decide +kernel, by decide +kernel⟩
def b__law_line : TSv SD :=
 (cCons (cSet 1 (eLst sNil))
 (cCons (cFor (.pair (.name 2) (.name 3)) (wEn (eVar 0)) (cCons (cDrop (eExt 1 (eBin .mul (eLst (sCons (eVar 2) sNil)) (eVar 3))))
 cNil))
 (cCons (cRet (eBi .tuple (sCons (eVar 1) sNil)))
 cNil)))
def F__law_line : List D → M SD D := runD 4 b__law_line
theorem d__law_line {prog : Program} {w : World} {K : PySem.W.Frag} {mg : Str → Option Value} {base : Heap} {T : Nat → Option Addr} {tb : Addr → Prop} (B : Free mg) 
    {cdv : Value} {a : Addr} {A : Around} {outer : List Env} {s : Shared} {H : Hp} {E : XK} (hr : Room 0 (A.deeper (envOfC "_law_line" (defScope s__law_line) s.heap.objs.size a (cdv)))) (hg : (A.deeper (envOfC "_law_line" (defScope s__law_line) s.heap.objs.size a (cdv))).guards = some []) :
    DSs (cxOf Ev.CX0 prog w K mg base N__law_line "_law_line" (defScope s__law_line) a (cdv) A outer s H E) T (Wdk dkk tb) (defBody s__law_line) b__law_line :=
 (ds_cons (set_ 1 sc__law_line.nd (de_lst da_nil))
 (ds_cons (ds_forN own_cx rfl (di_en rfl B.b_enumerate (v_ 0)) (dg_pair rfl (g_ 2 sc__law_line.nd) (g_ 3 sc__law_line.nd)) (ds_cons (ds_drop (de_ext (i := 1) rfl (by first | exact .inl rfl | exact .inr (.inl rfl) | exact .inr (.inr rfl)) (de_bin .mul (de_lst (da_cons (v_ 2) da_nil)) (v_ 3))))
 ds_nil))
 (ds_cons (ds_ret (de_biT .tuple (room_u hr) hg rfl rfl B.b_tuple (by kernel_rfl) rfl (da_cons (v_ 1) da_nil)))
 ds_nil)))
/-! ### _law_written -/
abbrev s__law_written : Stmt := top 58
abbrev N__law_written : List Str := ["lefts", "order", "turn", "found", "y", "x"]
abbrev P__law_written : List Str := ["lefts", "order"]
theorem sc__law_written : FnScope N__law_written P__law_written (defScope s__law_written) := ⟨rfl, rfl, rfl, by decide +kernel, rfl, by decide +kernel, by decide +kernel⟩
def b__law_written : TSv SD :=
 (cCons (cPar 2 3 (eBi .tuple (sCons (eBi .range1 (sCons (eBi .len (sCons (eVar 0) sNil)) sNil)) sNil)) (eLst sNil))
 (cCons (cFor (.name 4) (wIt (eVar 1)) (cCons (cSet 5 (eMeth .index (eVar 2) (eVar 4)))
 (cCons (cDrop (eApp 3 (eVar 5)))
 (cCons (cSet 2 (eCall F__law_after (sCons (eVar 2) (sCons (eIdx (eVar 0) (eVar 5)) sNil))))
 cNil))))
 (cCons (cRet (eBi .tuple (sCons (eVar 3) sNil)))
 cNil)))
def F__law_written : List D → M SD D := runD 6 b__law_written
theorem d__law_written {prog : Program} {w : World} {K : PySem.W.Frag} {mg : Str → Option Value} {base : Heap} {T : Nat → Option Addr} {tb : Addr → Prop} (B : Free mg) (H__law_after : Known prog w K mg base T (Wdk dkk tb) 1 "_law_after" 2 F__law_after)
    {cdv : Value} {a : Addr} {A : Around} {outer : List Env} {s : Shared} {H : Hp} {E : XK} (hr : Room 1 (A.deeper (envOfC "_law_written" (defScope s__law_written) s.heap.objs.size a (cdv)))) (hg : (A.deeper (envOfC "_law_written" (defScope s__law_written) s.heap.objs.size a (cdv))).guards = some []) :
    DSs (cxOf Ev.CX0 prog w K mg base N__law_written "_law_written" (defScope s__law_written) a (cdv) A outer s H E) T (Wdk dkk tb) (defBody s__law_written) b__law_written :=
 (ds_cons (ds_par (i := 2) (j := 3) rfl sc__law_written.nd rfl rfl (by decide) rfl rfl (de_biT .tuple (room_u hr) hg rfl rfl B.b_tuple (by kernel_rfl) rfl (da_cons (de_biT .range1 (room_u hr) hg rfl rfl B.b_range (by kernel_rfl) rfl (da_cons (de_biF .len (room_u hr) hg rfl rfl B.b_len (by kernel_rfl) rfl (da_cons (v_ 0) da_nil)) da_nil)) da_nil)) (de_lst da_nil) rfl)
 (ds_cons (ds_for own_cx rfl (di_it (v_ 1)) (g_ 4 sc__law_written.nd) (ds_cons (set_ 5 sc__law_written.nd (de_meth .index (room_u hr) F.slot_list_index F.type_list_index F.slot_tuple_index F.type_tuple_index (v_ 2) (v_ 4)))
 (ds_cons (ds_drop (de_app (i := 3) rfl (by first | exact .inl rfl | exact .inr (.inl rfl) | exact .inr (.inr rfl)) (v_ 5)))
 (ds_cons (set_ 2 sc__law_written.nd (de_call hg (H__law_after.to hr) rfl (da_cons (v_ 2) (da_cons (de_idx (v_ 0) (v_ 5) (fun _ _ => rfl)) da_nil)) (lenC (lenC lenN))))
 ds_nil))))
 (ds_cons (ds_ret (de_biT .tuple (room_u hr) hg rfl rfl B.b_tuple (by kernel_rfl) rfl (da_cons (v_ 3) da_nil)))
 ds_nil)))
/-! ### _law_is_first -/
abbrev s__law_is_first : Stmt := top 64
abbrev N__law_is_first : List Str := ["deck", "table", "lefts", "heap", "row", "line", "names", "near", "at"]
abbrev P__law_is_first : List Str := ["deck", "table", "lefts", "heap"]
theorem sc__law_is_first : FnScope N__law_is_first P__law_is_first (defScope s__law_is_first) := ⟨rfl, rfl, rfl, by decide +kernel, rfl, by decide +kernel, by decide +kernel⟩
def b__law_is_first : TSv SD :=
 (cCons (cSet 4 (eCall F_first_row (sCons (eVar 1) (sCons (eVar 3) sNil))))
 (cCons (cIf (qOr (qNot (qVal (eCall F__law_is_least (sCons (eVar 2) (sCons (eVar 3) (sCons (eVar 4) sNil)))))) (qNot (qVal (eCall F__law_same (sCons (eCallK F_first_row 0 2 [1, 0] sNil (sCons (eVar 3) (sCons (eVar 1) sNil))) (sCons (eVar 4) sNil)))))) (cCons (cRet (eK (.bl false)))
 cNil) cNil)
 (cCons (cIf (qNot (qVal (eCall F__law_same (sCons (eLst (sCons (eCall F_heap_of (sCons (eVar 1) (sCons (eVar 4) sNil))) (sCons (eCall F_order_of (sCons (eVar 1) (sCons (eVar 4) sNil))) sNil))) (sCons (eLst (sCons (eVar 3) (sCons (eIdx (eCall F__law_read (sCons (eVar 2) (sCons (eVar 4) sNil))) (eK (.int 0))) sNil))) sNil))))) (cCons (cRet (eK (.bl false)))
 cNil) cNil)
 (cCons (cSet 5 (eCall F__law_line (sCons (eVar 3) sNil)))
 (cCons (cSet 6 (eCall F__law_shuffled (sCons (eVar 0) (sCons (eBi .len (sCons (eVar 5) sNil)) sNil))))
 (cCons (cSet 7 (eCall F__law_written (sCons (eVar 2) (sCons (eLc [8] (.name 8) (wIt (eVar 6)) qYes (eIdx (eVar 5) (eVar 8))) sNil))))
 (cCons (cRet (eCall F__law_same (sCons (eLst (sCons (eCall F_heap_of (sCons (eVar 1) (sCons (eVar 7) sNil))) (sCons (eCall F_first_row (sCons (eVar 1) (sCons (eCall F_heap_of (sCons (eVar 1) (sCons (eVar 7) sNil))) sNil))) sNil))) (sCons (eLst (sCons (eVar 3) (sCons (eVar 4) sNil))) sNil))))
 cNil)))))))
def F__law_is_first : List D → M SD D := runD 9 b__law_is_first
theorem d__law_is_first {prog : Program} {w : World} {K : PySem.W.Frag} {mg : Str → Option Value} {base : Heap} {T : Nat → Option Addr} {tb : Addr → Prop} (B : Free mg) (H_first_row : Known prog w K mg base T (Wdk dkk tb) 10 "first_row" 2 F_first_row) (H__law_same : Known prog w K mg base T (Wdk dkk tb) 1 "_law_same" 2 F__law_same) (H__law_is_least : Known prog w K mg base T (Wdk dkk tb) 2 "_law_is_least" 3 F__law_is_least) (H_heap_of : Known prog w K mg base T (Wdk dkk tb) 11 "heap_of" 2 F_heap_of) (H_order_of : Known prog w K mg base T (Wdk dkk tb) 10 "order_of" 2 F_order_of) (H__law_read : Known prog w K mg base T (Wdk dkk tb) 2 "_law_read" 2 F__law_read) (H__law_line : Known prog w K mg base T (Wdk dkk tb) 1 "_law_line" 1 F__law_line) (H__law_shuffled : Known prog w K mg base T (Wdk dkk tb) 2 "_law_shuffled" 2 F__law_shuffled) (H__law_written : Known prog w K mg base T (Wdk dkk tb) 2 "_law_written" 2 F__law_written) (HK_first_row_heap_rule : KnownK prog w K mg base T (Wdk dkk tb) 10 "first_row" 2 F_first_row ["heap", "rule"] 0 [1, 0])
    {cdv : Value} {a : Addr} {A : Around} {outer : List Env} {s : Shared} {H : Hp} {E : XK} (hr : Room 11 (A.deeper (envOfC "_law_is_first" (defScope s__law_is_first) s.heap.objs.size a (cdv)))) (hg : (A.deeper (envOfC "_law_is_first" (defScope s__law_is_first) s.heap.objs.size a (cdv))).guards = some []) :
    DSs (cxOf Ev.CX0 prog w K mg base N__law_is_first "_law_is_first" (defScope s__law_is_first) a (cdv) A outer s H E) T (Wdk dkk tb) (defBody s__law_is_first) b__law_is_first :=
 (ds_cons (set_ 4 sc__law_is_first.nd (de_call hg (H_first_row.to hr) rfl (da_cons (v_ 1) (da_cons (v_ 3) da_nil)) (lenC (lenC lenN))))
 (ds_cons (ds_if (dt_w (dw_or (dt_not (dt_val (de_call hg (H__law_is_least.to hr) rfl (da_cons (v_ 2) (da_cons (v_ 3) (da_cons (v_ 4) da_nil))) (lenC (lenC (lenC lenN)))) (fun _ => rfl))) (dw_or1 (dt_not (dt_val (de_call hg (H__law_same.to hr) rfl (da_cons (de_callK hg (HK_first_row_heap_rule.to hr) rfl (dk_cons (v_ 3) (dk_cons (v_ 1) dk_nil)) rfl (lenC (lenC lenN))) (da_cons (v_ 4) da_nil)) (lenC (lenC lenN))) (fun _ => rfl)))))) (ds_cons (ds_ret de_bl)
 ds_nil) ds_nil)
 (ds_cons (ds_if (dt_not (dt_val (de_call hg (H__law_same.to hr) rfl (da_cons (de_lst (da_cons (de_call hg (H_heap_of.to hr) rfl (da_cons (v_ 1) (da_cons (v_ 4) da_nil)) (lenC (lenC lenN))) (da_cons (de_call hg (H_order_of.to hr) rfl (da_cons (v_ 1) (da_cons (v_ 4) da_nil)) (lenC (lenC lenN))) da_nil))) (da_cons (de_lst (da_cons (v_ 3) (da_cons (de_idx (de_call hg (H__law_read.to hr) rfl (da_cons (v_ 2) (da_cons (v_ 4) da_nil)) (lenC (lenC lenN))) de_int (fun _ _ => rfl)) da_nil))) da_nil)) (lenC (lenC lenN))) (fun _ => rfl))) (ds_cons (ds_ret de_bl)
 ds_nil) ds_nil)
 (ds_cons (set_ 5 sc__law_is_first.nd (de_call hg (H__law_line.to hr) rfl (da_cons (v_ 3) da_nil) (lenC lenN)))
 (ds_cons (set_ 6 sc__law_is_first.nd (de_call hg (H__law_shuffled.to hr) rfl (da_cons (v_ 0) (da_cons (de_biF .len (room_u hr) hg rfl rfl B.b_len (by kernel_rfl) rfl (da_cons (v_ 5) da_nil)) da_nil)) (lenC (lenC lenN))))
 (ds_cons (set_ 7 sc__law_is_first.nd (de_call hg (H__law_written.to hr) rfl (da_cons (v_ 2) (da_cons (de_lc (own := [("at", 8)]) rfl sc__law_is_first.nd (di_it (v_ 6)) (blkOk_by (own := [("at", 8)]) (by kernel_rfl)) (g := (.name 8)) (by decide) (fun _ _ _ _ _ => (g_ 8 sc__law_is_first.nd)) (fun _ _ _ _ _ => dts_nil) (fun _ _ _ _ _ => (de_idx (v_ 5) (v_ 8) (fun _ _ => rfl)))) da_nil)) (lenC (lenC lenN))))
 (ds_cons (ds_ret (de_call hg (H__law_same.to hr) rfl (da_cons (de_lst (da_cons (de_call hg (H_heap_of.to hr) rfl (da_cons (v_ 1) (da_cons (v_ 7) da_nil)) (lenC (lenC lenN))) (da_cons (de_call hg (H_first_row.to hr) rfl (da_cons (v_ 1) (da_cons (de_call hg (H_heap_of.to hr) rfl (da_cons (v_ 1) (da_cons (v_ 7) da_nil)) (lenC (lenC lenN))) da_nil)) (lenC (lenC lenN))) da_nil))) (da_cons (de_lst (da_cons (v_ 3) (da_cons (v_ 4) da_nil))) da_nil)) (lenC (lenC lenN))))
 ds_nil)))))))
/-! ### _law_drawn -/
abbrev s__law_drawn : Stmt := top 63
abbrev N__law_drawn : List Str := ["deck", "lefts", "most", "n", "way", "at", "many", "y", "row", "order", "left", "found", "names"]
abbrev P__law_drawn : List Str := ["deck", "lefts", "most"]
theorem sc__law_drawn : FnScope N__law_drawn P__law_drawn (defScope s__law_drawn) := ⟨rfl, rfl, rfl, by decide +kernel, rfl, by decide +kernel, by decide +kernel⟩
def b__law_drawn : TSv SD :=
 (cCons (cPar 3 4 (eBi .len (sCons (eVar 1) sNil)) (eCall F__law_draw (sCons (eVar 0) (sCons (eK (.int 4)) sNil))))
 (cCons (cIf (qVal (eCmp .eq (eVar 4) (eK (.int 0)))) (cCons (cPar 5 6 (eCall F__law_draw (sCons (eVar 0) (sCons (eVar 3) sNil))) (eCall F__law_draw (sCons (eVar 0) (sCons (eBin .add (eVar 2) (eK (.int 1))) sNil))))
 (cCons (cRet (eBi .tuple (sCons (eLc [7] (.name 7) (wR1 (eVar 3)) qYes (eIf (qVal (eCmp .eq (eVar 7) (eVar 5))) (eVar 6) (eK (.int 0)))) sNil)))
 cNil)) cNil)
 (cCons (cIf (qAnd (qVal (eCmp .eq (eVar 4) (eK (.int 1)))) (qVal (eCmp .le (eVar 3) (eVar 2)))) (cCons (cRet (eBin .mul (eTup (sCons (eCall F__law_draw (sCons (eVar 0) (sCons (eBin .add (eK (.int 1)) (eBin .fdiv (eVar 2) (eVar 3))) sNil))) sNil)) (eVar 3)))
 cNil) cNil)
 (cCons (cIf (qVal (eCmp .eq (eVar 4) (eK (.int 2)))) (cCons (cSet 8 (eLc [5] (.name 5) (wR1 (eCall F__law_draw (sCons (eVar 0) (sCons (eBin .add (eVar 2) (eK (.int 1))) sNil)))) qYes (eCall F__law_draw (sCons (eVar 0) (sCons (eVar 3) sNil)))))
 (cCons (cSet 9 (eIdx (eCall F__law_read (sCons (eVar 1) (sCons (eVar 8) sNil))) (eK (.int 0))))
 (cCons (cRet (eBi .tuple (sCons (eLc [7] (.name 7) (wR1 (eVar 3)) qYes (eMeth .count (eVar 9) (eVar 7))) sNil)))
 cNil))) cNil)
 (cCons (cPar 10 11 (eVar 2) (eLst sNil))
 (cCons (cFor (.name 7) (wR1 (eVar 3)) (cCons (cDrop (eApp 11 (eCall F__law_draw (sCons (eVar 0) (sCons (eBin .add (eK (.int 1)) (eVar 10)) sNil)))))
 (cCons (cSet 10 (eBin .sub (eVar 10) (eIdx (eVar 11) (eNeg (eK (.int 1))))))
 cNil)))
 (cCons (cSet 12 (eCall F__law_shuffled (sCons (eVar 0) (sCons (eVar 3) sNil))))
 (cCons (cRet (eBi .tuple (sCons (eLc [5] (.name 5) (wIt (eVar 12)) qYes (eIdx (eVar 11) (eVar 5))) sNil)))
 cNil))))))))
def F__law_drawn : List D → M SD D := runD 13 b__law_drawn
theorem d__law_drawn {prog : Program} {w : World} {K : PySem.W.Frag} {mg : Str → Option Value} {base : Heap} {T : Nat → Option Addr} {tb : Addr → Prop} (B : Free mg) (H__law_draw : Known prog w K mg base T (Wdk dkk tb) 1 "_law_draw" 2 F__law_draw) (H__law_read : Known prog w K mg base T (Wdk dkk tb) 2 "_law_read" 2 F__law_read) (H__law_shuffled : Known prog w K mg base T (Wdk dkk tb) 2 "_law_shuffled" 2 F__law_shuffled)
    {cdv : Value} {a : Addr} {A : Around} {outer : List Env} {s : Shared} {H : Hp} {E : XK} (hr : Room 2 (A.deeper (envOfC "_law_drawn" (defScope s__law_drawn) s.heap.objs.size a (cdv)))) (hg : (A.deeper (envOfC "_law_drawn" (defScope s__law_drawn) s.heap.objs.size a (cdv))).guards = some []) :
    DSs (cxOf Ev.CX0 prog w K mg base N__law_drawn "_law_drawn" (defScope s__law_drawn) a (cdv) A outer s H E) T (Wdk dkk tb) (defBody s__law_drawn) b__law_drawn :=
 (ds_cons (ds_parU (i := 3) (j := 4) rfl sc__law_drawn.nd rfl rfl (by decide) (by first | exact .inl rfl | exact .inr rfl) (by first | exact .inl rfl | exact .inr rfl) (by first | exact .inl rfl | exact .inr rfl) (by first | exact .inl rfl | exact .inr rfl) (de_biF .len (room_u hr) hg rfl rfl B.b_len (by kernel_rfl) rfl (da_cons (v_ 1) da_nil)) (de_call hg (H__law_draw.to hr) rfl (da_cons (v_ 0) (da_cons de_int da_nil)) (lenC (lenC lenN))))
 (ds_cons (ds_if (dt_cmp .eq (room_u hr) (v_ 4) de_int rfl) (ds_cons (ds_parU (i := 5) (j := 6) rfl sc__law_drawn.nd rfl rfl (by decide) (by first | exact .inl rfl | exact .inr rfl) (by first | exact .inl rfl | exact .inr rfl) (by first | exact .inl rfl | exact .inr rfl) (by first | exact .inl rfl | exact .inr rfl) (de_call hg (H__law_draw.to hr) rfl (da_cons (v_ 0) (da_cons (v_ 3) da_nil)) (lenC (lenC lenN))) (de_call hg (H__law_draw.to hr) rfl (da_cons (v_ 0) (da_cons (de_bin .add (v_ 2) de_int) da_nil)) (lenC (lenC lenN))))
 (ds_cons (ds_ret (de_biT .tuple (room_u hr) hg rfl rfl B.b_tuple (by kernel_rfl) rfl (da_cons (de_lc (own := [("y", 7)]) rfl sc__law_drawn.nd (di_r1 rfl B.b_range (v_ 3)) (blkOk_by (own := [("y", 7)]) (by kernel_rfl)) (g := (.name 7)) (by decide) (fun _ _ _ _ _ => (g_ 7 sc__law_drawn.nd)) (fun _ _ _ _ _ => dts_nil) (fun _ _ _ _ _ => (de_if (dt_cmp .eq (room_u hr) (v_ 7) (v_ 5) rfl) (v_ 6) de_int))) da_nil)))
 ds_nil)) ds_nil)
 (ds_cons (ds_if (dt_w (dw_and (dt_cmp .eq (room_u hr) (v_ 4) de_int rfl) (dw_and1 (dt_cmp .le (room_u hr) (v_ 3) (v_ 2) rfl)))) (ds_cons (ds_ret (de_bin .mul (de_tup (da_cons (de_call hg (H__law_draw.to hr) rfl (da_cons (v_ 0) (da_cons (de_bin .add de_int (de_bin .fdiv (v_ 2) (v_ 3))) da_nil)) (lenC (lenC lenN))) da_nil)) (v_ 3)))
 ds_nil) ds_nil)
 (ds_cons (ds_if (dt_cmp .eq (room_u hr) (v_ 4) de_int rfl) (ds_cons (ds_setLc (i := 8) (own := [("at", 5)]) rfl sc__law_drawn.nd rfl rfl (sw_true rfl rfl rfl (by decide +kernel)) (di_r1 rfl B.b_range (de_call hg (H__law_draw.to hr) rfl (da_cons (v_ 0) (da_cons (de_bin .add (v_ 2) de_int) da_nil)) (lenC (lenC lenN)))) (blkOk_by (own := [("at", 5)]) (by kernel_rfl)) (g := (.name 5)) (by decide) (fun _ _ _ _ _ => (g_ 5 sc__law_drawn.nd)) (fun _ _ _ _ _ => dts_nil) (fun _ _ _ _ _ => (de_call hg (H__law_draw.to hr) rfl (da_cons (v_ 0) (da_cons (v_ 3) da_nil)) (lenC (lenC lenN)))))
 (ds_cons (set_ 9 sc__law_drawn.nd (de_idx (de_call hg (H__law_read.to hr) rfl (da_cons (v_ 1) (da_cons (v_ 8) da_nil)) (lenC (lenC lenN))) de_int (fun _ _ => rfl)))
 (ds_cons (ds_ret (de_biT .tuple (room_u hr) hg rfl rfl B.b_tuple (by kernel_rfl) rfl (da_cons (de_lc (own := [("y", 7)]) rfl sc__law_drawn.nd (di_r1 rfl B.b_range (v_ 3)) (blkOk_by (own := [("y", 7)]) (by kernel_rfl)) (g := (.name 7)) (by decide) (fun _ _ _ _ _ => (g_ 7 sc__law_drawn.nd)) (fun _ _ _ _ _ => dts_nil) (fun _ _ _ _ _ => (de_meth .count (room_u hr) F.slot_list_count F.type_list_count F.slot_tuple_count F.type_tuple_count (v_ 9) (v_ 7)))) da_nil)))
 ds_nil))) ds_nil)
 (ds_cons (ds_parU (i := 10) (j := 11) rfl sc__law_drawn.nd rfl rfl (by decide) (by first | exact .inl rfl | exact .inr rfl) (by first | exact .inl rfl | exact .inr rfl) (by first | exact .inl rfl | exact .inr rfl) (by first | exact .inl rfl | exact .inr rfl) (v_ 2) (de_lst da_nil))
 (ds_cons (ds_for own_cx rfl (di_r1 rfl B.b_range (v_ 3)) (g_ 7 sc__law_drawn.nd) (ds_cons (ds_drop (de_app (i := 11) rfl (by first | exact .inl rfl | exact .inr (.inl rfl) | exact .inr (.inr rfl)) (de_call hg (H__law_draw.to hr) rfl (da_cons (v_ 0) (da_cons (de_bin .add de_int (v_ 10)) da_nil)) (lenC (lenC lenN)))))
 (ds_cons (set_ 10 sc__law_drawn.nd (de_bin .sub (v_ 10) (de_idx (v_ 11) (de_neg de_int) (fun _ _ => rfl))))
 ds_nil)))
 (ds_cons (set_ 12 sc__law_drawn.nd (de_call hg (H__law_shuffled.to hr) rfl (da_cons (v_ 0) (da_cons (v_ 3) da_nil)) (lenC (lenC lenN))))
 (ds_cons (ds_ret (de_biT .tuple (room_u hr) hg rfl rfl B.b_tuple (by kernel_rfl) rfl (da_cons (de_lc (own := [("at", 5)]) rfl sc__law_drawn.nd (di_it (v_ 12)) (blkOk_by (own := [("at", 5)]) (by kernel_rfl)) (g := (.name 5)) (by decide) (fun _ _ _ _ _ => (g_ 5 sc__law_drawn.nd)) (fun _ _ _ _ _ => dts_nil) (fun _ _ _ _ _ => (de_idx (v_ 11) (v_ 5) (fun _ _ => rfl)))) da_nil)))
 ds_nil))))))))
/-! ### _law_orders -/
abbrev s__law_orders : Stmt := top 62
abbrev N__law_orders : List Str := ["heap", "found", "turn", "more", "row", "y", "many"]
abbrev P__law_orders : List Str := ["heap"]
theorem sc__law_orders : FnScope N__law_orders P__law_orders (defScope s__law_orders) := ⟨rfl, rfl, rfl, by decide +kernel, rfl, by decide +kernel, by decide +kernel⟩
def b__law_orders : TSv SD :=
 (cCons (cSet 1 (eLst (sCons (eTup sNil) sNil)))
 (cCons (cFor (.name 2) (wR1 (eOp opSum2 (sCons (eVar 0) sNil))) (cCons (cSet 3 (eLst sNil))
 (cCons (cFor (.name 4) (wIt (eVar 1)) (cCons (cDrop (eExt 3 (eLc [5, 6] (.pair (.name 5) (.name 6)) (wEn (eVar 0)) (qVal (eCmp .lt (eMeth .count (eVar 4) (eVar 5)) (eVar 6))) (eBin .add (eVar 4) (eTup (sCons (eVar 5) sNil))))))
 cNil))
 (cCons (cSet 1 (eVar 3))
 cNil))))
 (cCons (cRet (eVar 1))
 cNil)))
def F__law_orders : List D → M SD D := runD 7 b__law_orders
theorem d__law_orders {prog : Program} {w : World} {K : PySem.W.Frag} {mg : Str → Option Value} {base : Heap} {T : Nat → Option Addr} {tb : Addr → Prop} (B : Free mg) 
    {cdv : Value} {a : Addr} {A : Around} {outer : List Env} {s : Shared} {H : Hp} {E : XK} (hr : Room 0 (A.deeper (envOfC "_law_orders" (defScope s__law_orders) s.heap.objs.size a (cdv)))) (hg : (A.deeper (envOfC "_law_orders" (defScope s__law_orders) s.heap.objs.size a (cdv))).guards = some []) :
    DSs (cxOf Ev.CX0 prog w K mg base N__law_orders "_law_orders" (defScope s__law_orders) a (cdv) A outer s H E) T (Wdk dkk tb) (defBody s__law_orders) b__law_orders :=
 (ds_cons (set_ 1 sc__law_orders.nd (de_lst (da_cons (de_tup da_nil) da_nil)))
 (ds_cons (ds_for own_cx rfl (di_r1 rfl B.b_range (de_opF sum2_ok ((cr_sum rfl).or (cr_sumT rfl)) rfl B.b_sum (by kernel_rfl) (da_cons (v_ 0) da_nil))) (g_ 2 sc__law_orders.nd) (ds_cons (set_ 3 sc__law_orders.nd (de_lst da_nil))
 (ds_cons (ds_for own_cx rfl (di_it (v_ 1)) (g_ 4 sc__law_orders.nd) (ds_cons (ds_drop (de_ext (i := 3) rfl (by first | exact .inl rfl | exact .inr (.inl rfl) | exact .inr (.inr rfl)) (de_lcN (own := [("y", 5), ("many", 6)]) rfl sc__law_orders.nd (di_en rfl B.b_enumerate (v_ 0)) (blkOk_by (own := [("y", 5), ("many", 6)]) (by kernel_rfl)) (g := (.pair (.name 5) (.name 6))) (by decide) (fun _ _ _ _ _ => (dg_pair rfl (g_ 5 sc__law_orders.nd) (g_ 6 sc__law_orders.nd))) (fun _ _ _ _ _ => (dts_one (dt_cmp .lt (room_u hr) (de_meth .count (room_u hr) F.slot_list_count F.type_list_count F.slot_tuple_count F.type_tuple_count (v_ 4) (v_ 5)) (v_ 6) rfl))) (fun _ _ _ _ _ => (de_bin .add (v_ 4) (de_tup (da_cons (v_ 5) da_nil)))))))
 ds_nil))
 (ds_cons (set_ 1 sc__law_orders.nd (v_ 3))
 ds_nil))))
 (ds_cons (ds_ret (v_ 1))
 ds_nil)))
/-! ### many_of_heap -/
abbrev s_many_of_heap : Stmt := top 43
abbrev N_many_of_heap : List Str := ["heap", "found", "many"]
abbrev P_many_of_heap : List Str := ["heap"]
theorem sc_many_of_heap : FnScope N_many_of_heap P_many_of_heap (defScope s_many_of_heap) := ⟨rfl, rfl, rfl, by decide +kernel, rfl, by decide +kernel, by decide +kernel⟩
def b_many_of_heap : TSv SD :=
 (cCons (cSet 1 (eOp opFact (sCons (eOp opSum2 (sCons (eVar 0) sNil)) sNil)))
 (cCons (cFor (.name 2) (wIt (eVar 0)) (cCons (cSet 1 (eBin .fdiv (eVar 1) (eOp opFact (sCons (eVar 2) sNil))))
 cNil))
 (cCons (cRet (eVar 1))
 cNil)))
def F_many_of_heap : List D → M SD D := runD 3 b_many_of_heap
theorem d_many_of_heap {prog : Program} {w : World} {K : PySem.W.Frag} {mg : Str → Option Value} {base : Heap} {T : Nat → Option Addr} {tb : Addr → Prop} (B : Free mg) 
    {cdv : Value} {a : Addr} {A : Around} {outer : List Env} {s : Shared} {H : Hp} {E : XK} (hr : Room 0 (A.deeper (envOfC "many_of_heap" (defScope s_many_of_heap) s.heap.objs.size a (cdv)))) (hg : (A.deeper (envOfC "many_of_heap" (defScope s_many_of_heap) s.heap.objs.size a (cdv))).guards = some []) :
    DSs (cxOf Ev.CX0 prog w K mg base N_many_of_heap "many_of_heap" (defScope s_many_of_heap) a (cdv) A outer s H E) T (Wdk dkk tb) (defBody s_many_of_heap) b_many_of_heap :=
 (ds_cons (set_ 1 sc_many_of_heap.nd (de_opG fact_ok call_fact rfl B.i_factorial (da_cons (de_opF sum2_ok ((cr_sum rfl).or (cr_sumT rfl)) rfl B.b_sum (by kernel_rfl) (da_cons (v_ 0) da_nil)) da_nil)))
 (ds_cons (ds_for own_cx rfl (di_it (v_ 0)) (g_ 2 sc_many_of_heap.nd) (ds_cons (set_ 1 sc_many_of_heap.nd (de_bin .fdiv (v_ 1) (de_opG fact_ok call_fact rfl B.i_factorial (da_cons (v_ 2) da_nil))))
 ds_nil))
 (ds_cons (ds_ret (v_ 1))
 ds_nil)))
/-! ### heap_and_turn -/
abbrev s_heap_and_turn : Stmt := top 8
abbrev N_heap_and_turn : List Str := ["table", "row", "order", "turn"]
abbrev P_heap_and_turn : List Str := ["table", "row"]
theorem sc_heap_and_turn : FnScope N_heap_and_turn P_heap_and_turn (defScope s_heap_and_turn) := ⟨rfl, rfl, rfl, by decide +kernel, rfl, by decide +kernel, by decide +kernel⟩
def b_heap_and_turn : TSv SD :=
 (cCons (cUnp (.pair (.name 2) (.name 3)) (eCall F_order_by (sCons (eCall F_lefts_of (sCons (eVar 0) sNil)) (sCons (eVar 1) sNil))))
 (cCons (cRet (eTup (sCons (eCall F_heap_by (sCons (eBi .len (sCons (eVar 0) sNil)) (sCons (eVar 2) sNil))) (sCons (eVar 3) sNil))))
 cNil))
def F_heap_and_turn : List D → M SD D := runD 4 b_heap_and_turn
theorem d_heap_and_turn {prog : Program} {w : World} {K : PySem.W.Frag} {mg : Str → Option Value} {base : Heap} {T : Nat → Option Addr} {tb : Addr → Prop} (B : Free mg) (H_order_by : Known prog w K mg base T (Wdk dkk tb) 2 "order_by" 2 F_order_by) (H_lefts_of : Known prog w K mg base T (Wdk dkk tb) 1 "lefts_of" 1 F_lefts_of) (H_heap_by : Known prog w K mg base T (Wdk dkk tb) 1 "heap_by" 2 F_heap_by)
    {cdv : Value} {a : Addr} {A : Around} {outer : List Env} {s : Shared} {H : Hp} {E : XK} (hr : Room 2 (A.deeper (envOfC "heap_and_turn" (defScope s_heap_and_turn) s.heap.objs.size a (cdv)))) (hg : (A.deeper (envOfC "heap_and_turn" (defScope s_heap_and_turn) s.heap.objs.size a (cdv))).guards = some []) :
    DSs (cxOf Ev.CX0 prog w K mg base N_heap_and_turn "heap_and_turn" (defScope s_heap_and_turn) a (cdv) A outer s H E) T (Wdk dkk tb) (defBody s_heap_and_turn) b_heap_and_turn :=
 (ds_cons (ds_unp (de_call hg (H_order_by.to hr) rfl (da_cons (de_call hg (H_lefts_of.to hr) rfl (da_cons (v_ 0) da_nil) (lenC lenN)) (da_cons (v_ 1) da_nil)) (lenC (lenC lenN))) (dg_pair rfl (g_ 2 sc_heap_and_turn.nd) (g_ 3 sc_heap_and_turn.nd)))
 (ds_cons (ds_ret (de_tup (da_cons (de_call hg (H_heap_by.to hr) rfl (da_cons (de_biF .len (room_u hr) hg rfl rfl B.b_len (by kernel_rfl) rfl (da_cons (v_ 0) da_nil)) (da_cons (v_ 2) da_nil)) (lenC (lenC lenN))) (da_cons (v_ 3) da_nil))))
 ds_nil))
/-! ### heap_of_row -/
abbrev s_heap_of_row : Stmt := top 9
abbrev N_heap_of_row : List Str := ["table", "row"]
abbrev P_heap_of_row : List Str := ["table", "row"]
theorem sc_heap_of_row : FnScope N_heap_of_row P_heap_of_row (defScope s_heap_of_row) := ⟨rfl, rfl, rfl, by decide +kernel, rfl, by decide +kernel, by decide +kernel⟩
def b_heap_of_row : TSv SD :=
 (cCons (cRet (eIdx (eCall F_heap_and_turn (sCons (eVar 0) (sCons (eVar 1) sNil))) (eK (.int 0))))
 cNil)
def F_heap_of_row : List D → M SD D := runD 2 b_heap_of_row
theorem d_heap_of_row {prog : Program} {w : World} {K : PySem.W.Frag} {mg : Str → Option Value} {base : Heap} {T : Nat → Option Addr} {tb : Addr → Prop} (B : Free mg) (H_heap_and_turn : Known prog w K mg base T (Wdk dkk tb) 3 "heap_and_turn" 2 F_heap_and_turn)
    {cdv : Value} {a : Addr} {A : Around} {outer : List Env} {s : Shared} {H : Hp} {E : XK} (hr : Room 3 (A.deeper (envOfC "heap_of_row" (defScope s_heap_of_row) s.heap.objs.size a (cdv)))) (hg : (A.deeper (envOfC "heap_of_row" (defScope s_heap_of_row) s.heap.objs.size a (cdv))).guards = some []) :
    DSs (cxOf Ev.CX0 prog w K mg base N_heap_of_row "heap_of_row" (defScope s_heap_of_row) a (cdv) A outer s H E) T (Wdk dkk tb) (defBody s_heap_of_row) b_heap_of_row :=
 (ds_cons (ds_ret (de_idx (de_call hg (H_heap_and_turn.to hr) rfl (da_cons (v_ 0) (da_cons (v_ 1) da_nil)) (lenC (lenC lenN))) de_int (fun _ _ => rfl)))
 ds_nil)
/-! ### many_alike -/
abbrev s_many_alike : Stmt := top 44
abbrev N_many_alike : List Str := ["rule", "row"]
abbrev P_many_alike : List Str := ["rule", "row"]
theorem sc_many_alike : FnScope N_many_alike P_many_alike (defScope s_many_alike) := ⟨rfl, rfl, rfl, by decide +kernel, rfl, by decide +kernel, by decide +kernel⟩
def b_many_alike : TSv SD :=
 (cCons (cDrop (eCall F_need_rule (sCons (eVar 0) sNil)))
 (cCons (cDrop (eCall F_need_row (sCons (eVar 0) (sCons (eVar 1) sNil))))
 (cCons (cRet (eCall F_many_of_heap (sCons (eCall F_heap_of_row (sCons (eVar 0) (sCons (eVar 1) sNil))) sNil)))
 cNil)))
def F_many_alike : List D → M SD D := runD 2 b_many_alike
theorem d_many_alike {prog : Program} {w : World} {K : PySem.W.Frag} {mg : Str → Option Value} {base : Heap} {T : Nat → Option Addr} {tb : Addr → Prop} (B : Free mg) (H_need_rule : Known prog w K mg base T (Wdk dkk tb) 9 "need_rule" 1 F_need_rule) (H_need_row : Known prog w K mg base T (Wdk dkk tb) 5 "need_row" 2 F_need_row) (H_many_of_heap : Known prog w K mg base T (Wdk dkk tb) 1 "many_of_heap" 1 F_many_of_heap) (H_heap_of_row : Known prog w K mg base T (Wdk dkk tb) 4 "heap_of_row" 2 F_heap_of_row)
    {cdv : Value} {a : Addr} {A : Around} {outer : List Env} {s : Shared} {H : Hp} {E : XK} (hr : Room 9 (A.deeper (envOfC "many_alike" (defScope s_many_alike) s.heap.objs.size a (cdv)))) (hg : (A.deeper (envOfC "many_alike" (defScope s_many_alike) s.heap.objs.size a (cdv))).guards = some []) :
    DSs (cxOf Ev.CX0 prog w K mg base N_many_alike "many_alike" (defScope s_many_alike) a (cdv) A outer s H E) T (Wdk dkk tb) (defBody s_many_alike) b_many_alike :=
 (ds_cons (ds_drop (de_call hg (H_need_rule.to hr) rfl (da_cons (v_ 0) da_nil) (lenC lenN)))
 (ds_cons (ds_drop (de_call hg (H_need_row.to hr) rfl (da_cons (v_ 0) (da_cons (v_ 1) da_nil)) (lenC (lenC lenN))))
 (ds_cons (ds_ret (de_call hg (H_many_of_heap.to hr) rfl (da_cons (de_call hg (H_heap_of_row.to hr) rfl (da_cons (v_ 0) (da_cons (v_ 1) da_nil)) (lenC (lenC lenN))) da_nil) (lenC lenN)))
 ds_nil)))
/-! ### law -/
abbrev s_law : Stmt := top 65
abbrev N_law : List Str := ["script", "deck", "n", "lefts", "table", "heap", "rows", "told", "order"]
abbrev P_law : List Str := ["script"]
theorem sc_law : FnScope N_law P_law (defScope s_law) := ⟨rfl, rfl, rfl, by decide +kernel, rfl, by decide +kernel, by decide +kernel⟩
def b_law : TSv SD :=
 (cCons (cSet 1 (eCall F__law_deck (sCons (eVar 0) sNil)))
 (cCons (cSet 2 (eIdx (eTup (sCons (eK (.int 3)) (sCons (eK (.int 4)) (sCons (eK (.int 2)) (sCons (eK (.int 5)) (sCons (eK (.int 3)) (sCons (eK (.int 4)) (sCons (eK (.int 6)) (sCons (eK (.int 2)) (sCons (eK (.int 3)) (sCons (eK (.int 1)) (sCons (eK (.int 7)) (sCons (eK (.int 8)) sNil))))))))))))) (eCall F__law_draw (sCons (eVar 1) (sCons (eK (.int 12)) sNil)))))
 (cCons (cSet 3 (eCall F__law_lefts (sCons (eVar 1) (sCons (eVar 2) sNil))))
 (cCons (cSet 4 (eCall F__law_table (sCons (eVar 3) sNil)))
 (cCons (cIf (qNot (qVal (eCall F__law_is_first (sCons (eVar 1) (sCons (eVar 4) (sCons (eVar 3) (sCons (eCall F__law_drawn (sCons (eVar 1) (sCons (eVar 3) (sCons (eK (.int 60)) sNil)))) sNil))))))) (cCons (cRet (eK (.bl false)))
 cNil) cNil)
 (cCons (cIf (qNot (qVal (eCall F__law_is_first (sCons (eVar 1) (sCons (eVar 4) (sCons (eVar 3) (sCons (eCall F__law_drawn (sCons (eVar 1) (sCons (eVar 3) (sCons (eK (.int 12)) sNil)))) sNil))))))) (cCons (cRet (eK (.bl false)))
 cNil) cNil)
 (cCons (cSet 5 (eCall F__law_drawn (sCons (eVar 1) (sCons (eVar 3) (sCons (eK (.int 5)) sNil)))))
 (cCons (cSet 6 (eLc [8] (.name 8) (wIt (eCall F__law_orders (sCons (eVar 5) sNil))) qYes (eCall F__law_written (sCons (eVar 3) (sCons (eVar 8) sNil)))))
 (cCons (cSet 7 (eLst (sCons (eCall F_first_row (sCons (eVar 4) (sCons (eVar 5) sNil))) (sCons (eCall F_many_alike (sCons (eVar 4) (sCons (eIdx (eVar 6) (eNeg (eK (.int 1)))) sNil))) sNil))))
 (cCons (cRet (eCall F__law_same (sCons (eVar 7) (sCons (eLst (sCons (eOp opMin2 (sCons (eVar 6) sNil)) (sCons (eBi .len (sCons (eVar 6) sNil)) sNil))) sNil))))
 cNil))))))))))
def F_law : List D → M SD D := runD 9 b_law
theorem d_law {prog : Program} {w : World} {K : PySem.W.Frag} {mg : Str → Option Value} {base : Heap} {T : Nat → Option Addr} {tb : Addr → Prop} (B : Free mg) (H__law_deck : Known prog w K mg base T (Wdk dkk tb) 1 "_law_deck" 1 F__law_deck) (H__law_draw : Known prog w K mg base T (Wdk dkk tb) 1 "_law_draw" 2 F__law_draw) (H__law_lefts : Known prog w K mg base T (Wdk dkk tb) 4 "_law_lefts" 2 F__law_lefts) (H__law_table : Known prog w K mg base T (Wdk dkk tb) 1 "_law_table" 1 F__law_table) (H__law_is_first : Known prog w K mg base T (Wdk dkk tb) 12 "_law_is_first" 4 F__law_is_first) (H__law_drawn : Known prog w K mg base T (Wdk dkk tb) 3 "_law_drawn" 3 F__law_drawn) (H__law_orders : Known prog w K mg base T (Wdk dkk tb) 1 "_law_orders" 1 F__law_orders) (H__law_written : Known prog w K mg base T (Wdk dkk tb) 2 "_law_written" 2 F__law_written) (H_first_row : Known prog w K mg base T (Wdk dkk tb) 10 "first_row" 2 F_first_row) (H_many_alike : Known prog w K mg base T (Wdk dkk tb) 10 "many_alike" 2 F_many_alike) (H__law_same : Known prog w K mg base T (Wdk dkk tb) 1 "_law_same" 2 F__law_same)
    {cdv : Value} {a : Addr} {A : Around} {outer : List Env} {s : Shared} {H : Hp} {E : XK} (hr : Room 12 (A.deeper (envOfC "law" (defScope s_law) s.heap.objs.size a (cdv)))) (hg : (A.deeper (envOfC "law" (defScope s_law) s.heap.objs.size a (cdv))).guards = some []) :
    DSs (cxOf Ev.CX0 prog w K mg base N_law "law" (defScope s_law) a (cdv) A outer s H E) T (Wdk dkk tb) (defBody s_law) b_law :=
 (ds_cons (set_ 1 sc_law.nd (de_call hg (H__law_deck.to hr) rfl (da_cons (v_ 0) da_nil) (lenC lenN)))
 (ds_cons (set_ 2 sc_law.nd (de_idx (de_tup (da_cons de_int (da_cons de_int (da_cons de_int (da_cons de_int (da_cons de_int (da_cons de_int (da_cons de_int (da_cons de_int (da_cons de_int (da_cons de_int (da_cons de_int (da_cons de_int da_nil))))))))))))) (de_call hg (H__law_draw.to hr) rfl (da_cons (v_ 1) (da_cons de_int da_nil)) (lenC (lenC lenN))) (fun _ _ => rfl)))
 (ds_cons (set_ 3 sc_law.nd (de_call hg (H__law_lefts.to hr) rfl (da_cons (v_ 1) (da_cons (v_ 2) da_nil)) (lenC (lenC lenN))))
 (ds_cons (set_ 4 sc_law.nd (de_call hg (H__law_table.to hr) rfl (da_cons (v_ 3) da_nil) (lenC lenN)))
 (ds_cons (ds_if (dt_not (dt_val (de_call hg (H__law_is_first.to hr) rfl (da_cons (v_ 1) (da_cons (v_ 4) (da_cons (v_ 3) (da_cons (de_call hg (H__law_drawn.to hr) rfl (da_cons (v_ 1) (da_cons (v_ 3) (da_cons de_int da_nil))) (lenC (lenC (lenC lenN)))) da_nil)))) (lenC (lenC (lenC (lenC lenN))))) (fun _ => rfl))) (ds_cons (ds_ret de_bl)
 ds_nil) ds_nil)
 (ds_cons (ds_if (dt_not (dt_val (de_call hg (H__law_is_first.to hr) rfl (da_cons (v_ 1) (da_cons (v_ 4) (da_cons (v_ 3) (da_cons (de_call hg (H__law_drawn.to hr) rfl (da_cons (v_ 1) (da_cons (v_ 3) (da_cons de_int da_nil))) (lenC (lenC (lenC lenN)))) da_nil)))) (lenC (lenC (lenC (lenC lenN))))) (fun _ => rfl))) (ds_cons (ds_ret de_bl)
 ds_nil) ds_nil)
 (ds_cons (set_ 5 sc_law.nd (de_call hg (H__law_drawn.to hr) rfl (da_cons (v_ 1) (da_cons (v_ 3) (da_cons de_int da_nil))) (lenC (lenC (lenC lenN)))))
 (ds_cons (ds_setLc (i := 6) (own := [("order", 8)]) rfl sc_law.nd rfl rfl (sw_true rfl rfl rfl (by decide +kernel)) (di_it (de_call hg (H__law_orders.to hr) rfl (da_cons (v_ 5) da_nil) (lenC lenN))) (blkOk_by (own := [("order", 8)]) (by kernel_rfl)) (g := (.name 8)) (by decide) (fun _ _ _ _ _ => (g_ 8 sc_law.nd)) (fun _ _ _ _ _ => dts_nil) (fun _ _ _ _ _ => (de_call hg (H__law_written.to hr) rfl (da_cons (v_ 3) (da_cons (v_ 8) da_nil)) (lenC (lenC lenN)))))
 (ds_cons (set_ 7 sc_law.nd (de_lst (da_cons (de_call hg (H_first_row.to hr) rfl (da_cons (v_ 4) (da_cons (v_ 5) da_nil)) (lenC (lenC lenN))) (da_cons (de_call hg (H_many_alike.to hr) rfl (da_cons (v_ 4) (da_cons (de_idx (v_ 6) (de_neg de_int) (fun _ _ => rfl)) da_nil)) (lenC (lenC lenN))) da_nil))))
 (ds_cons (ds_ret (de_call hg (H__law_same.to hr) rfl (da_cons (v_ 7) (da_cons (de_lst (da_cons (de_opF min2_ok ((cr_min rfl).or (cr_minP rfl (room_u hr))) rfl B.b_min (by kernel_rfl) (da_cons (v_ 6) da_nil)) (da_cons (de_biF .len (room_u hr) hg rfl rfl B.b_len (by kernel_rfl) rfl (da_cons (v_ 6) da_nil)) da_nil))) da_nil)) (lenC (lenC lenN))))
 ds_nil))))))))))
end K15
/-! from K15H.lean -/
set_option maxRecDepth 100000
set_option maxHeartbeats 0
/-! The head: what the module tells when the law is called. Printed by gen.py. -/
namespace K15
open PySem PySem.Spec PyProof.Rows L2 Ev
def dd__law_deck : He.DefD := ⟨("_law_deck", none), "_law_deck", "_law_deck", defArgs s__law_deck, defBody s__law_deck, defScope s__law_deck, [], []⟩
def dd__law_draw : He.DefD := ⟨("_law_draw", none), "_law_draw", "_law_draw", defArgs s__law_draw, defBody s__law_draw, defScope s__law_draw, [], []⟩
def dd__law_shuffled : He.DefD := ⟨("_law_shuffled", none), "_law_shuffled", "_law_shuffled", defArgs s__law_shuffled, defBody s__law_shuffled, defScope s__law_shuffled, [], []⟩
def dd__law_base : He.DefD := ⟨("_law_base", none), "_law_base", "_law_base", defArgs s__law_base, defBody s__law_base, defScope s__law_base, [], []⟩
def dd__law_crossed : He.DefD := ⟨("_law_crossed", none), "_law_crossed", "_law_crossed", defArgs s__law_crossed, defBody s__law_crossed, defScope s__law_crossed, [], []⟩
def dd__law_after : He.DefD := ⟨("_law_after", none), "_law_after", "_law_after", defArgs s__law_after, defBody s__law_after, defScope s__law_after, [], []⟩
def dd__law_keeps : He.DefD := ⟨("_law_keeps", none), "_law_keeps", "_law_keeps", defArgs s__law_keeps, defBody s__law_keeps, defScope s__law_keeps, [], []⟩
def dd__law_kept : He.DefD := ⟨("_law_kept", none), "_law_kept", "_law_kept", defArgs s__law_kept, defBody s__law_kept, defScope s__law_kept, [], []⟩
def dd__law_mirrored : He.DefD := ⟨("_law_mirrored", none), "_law_mirrored", "_law_mirrored", defArgs s__law_mirrored, defBody s__law_mirrored, defScope s__law_mirrored, [], []⟩
def dd__law_lefts : He.DefD := ⟨("_law_lefts", none), "_law_lefts", "_law_lefts", defArgs s__law_lefts, defBody s__law_lefts, defScope s__law_lefts, [], []⟩
def dd__law_table : He.DefD := ⟨("_law_table", none), "_law_table", "_law_table", defArgs s__law_table, defBody s__law_table, defScope s__law_table, [], []⟩
def dd_is_twice_fault : He.DefD := ⟨("is_twice_fault", none), "is_twice_fault", "is_twice_fault", defArgs s_is_twice_fault, defBody s_is_twice_fault, defScope s_is_twice_fault, [], []⟩
def dd_is_left_fault : He.DefD := ⟨("is_left_fault", none), "is_left_fault", "is_left_fault", defArgs s_is_left_fault, defBody s_is_left_fault, defScope s_is_left_fault, [], []⟩
def dd_is_right_fault : He.DefD := ⟨("is_right_fault", none), "is_right_fault", "is_right_fault", defArgs s_is_right_fault, defBody s_is_right_fault, defScope s_is_right_fault, [], []⟩
def dd_met_row : He.DefD := ⟨("met_row", none), "met_row", "met_row", defArgs s_met_row, defBody s_met_row, defScope s_met_row, [], []⟩
def dd_is_three_fault : He.DefD := ⟨("is_three_fault", none), "is_three_fault", "is_three_fault", defArgs s_is_three_fault, defBody s_is_three_fault, defScope s_is_three_fault, [], []⟩
def dd_fault_of : He.DefD := ⟨("fault_of", none), "fault_of", "fault_of", defArgs s_fault_of, defBody s_fault_of, defScope s_fault_of, [], []⟩
def dd_is_integer : He.DefD := ⟨("is_integer", none), "is_integer", "is_integer", defArgs s_is_integer, defBody s_is_integer, defScope s_is_integer, [], []⟩
def dd_is_size : He.DefD := ⟨("is_size", none), "is_size", "is_size", defArgs s_is_size, defBody s_is_size, defScope s_is_size, [], []⟩
def dd_is_rows : He.DefD := ⟨("is_rows", none), "is_rows", "is_rows", defArgs s_is_rows, defBody s_is_rows, defScope s_is_rows, [], []⟩
def dd_is_below : He.DefD := ⟨("is_below", none), "is_below", "is_below", defArgs s_is_below, defBody s_is_below, defScope s_is_below, [], []⟩
def dd_is_kinds : He.DefD := ⟨("is_kinds", none), "is_kinds", "is_kinds", defArgs s_is_kinds, defBody s_is_kinds, defScope s_is_kinds, [], []⟩
def dd_is_pair : He.DefD := ⟨("is_pair", none), "is_pair", "is_pair", defArgs s_is_pair, defBody s_is_pair, defScope s_is_pair, [], []⟩
def dd_is_table : He.DefD := ⟨("is_table", none), "is_table", "is_table", defArgs s_is_table, defBody s_is_table, defScope s_is_table, [], []⟩
def dd_is_rule : He.DefD := ⟨("is_rule", none), "is_rule", "is_rule", defArgs s_is_rule, defBody s_is_rule, defScope s_is_rule, [], []⟩
def dd_need_rule : He.DefD := ⟨("need_rule", none), "need_rule", "need_rule", defArgs s_need_rule, defBody s_need_rule, defScope s_need_rule, [], []⟩
def dd_is_heap : He.DefD := ⟨("is_heap", none), "is_heap", "is_heap", defArgs s_is_heap, defBody s_is_heap, defScope s_is_heap, [], []⟩
def dd_is_full_heap : He.DefD := ⟨("is_full_heap", none), "is_full_heap", "is_full_heap", defArgs s_is_full_heap, defBody s_is_full_heap, defScope s_is_full_heap, [], []⟩
def dd_identity : He.DefD := ⟨("identity", none), "identity", "identity", defArgs s_identity, defBody s_identity, defScope s_identity, [], []⟩
def dd_after : He.DefD := ⟨("after", none), "after", "after", defArgs s_after, defBody s_after, defScope s_after, [], []⟩
def dd_first_by : He.DefD := ⟨("first_by", none), "first_by", "first_by", defArgs s_first_by, defBody s_first_by, defScope s_first_by, [], []⟩
def dd_lefts_of : He.DefD := ⟨("lefts_of", none), "lefts_of", "lefts_of", defArgs s_lefts_of, defBody s_lefts_of, defScope s_lefts_of, [], []⟩
def dd_first_row : He.DefD := ⟨("first_row", none), "first_row", "first_row", defArgs s_first_row, defBody s_first_row, defScope s_first_row, [], []⟩
def dd__law_same : He.DefD := ⟨("_law_same", none), "_law_same", "_law_same", defArgs s__law_same, defBody s__law_same, defScope s__law_same, [], []⟩
def dd__law_is_least : He.DefD := ⟨("_law_is_least", none), "_law_is_least", "_law_is_least", defArgs s__law_is_least, defBody s__law_is_least, defScope s__law_is_least, [], []⟩
def dd_need_row : He.DefD := ⟨("need_row", none), "need_row", "need_row", defArgs s_need_row, defBody s_need_row, defScope s_need_row, [], []⟩
def dd_order_by : He.DefD := ⟨("order_by", none), "order_by", "order_by", defArgs s_order_by, defBody s_order_by, defScope s_order_by, [], []⟩
def dd_order_of : He.DefD := ⟨("order_of", none), "order_of", "order_of", defArgs s_order_of, defBody s_order_of, defScope s_order_of, [], []⟩
def dd_heap_by : He.DefD := ⟨("heap_by", none), "heap_by", "heap_by", defArgs s_heap_by, defBody s_heap_by, defScope s_heap_by, [], []⟩
def dd_heap_of : He.DefD := ⟨("heap_of", none), "heap_of", "heap_of", defArgs s_heap_of, defBody s_heap_of, defScope s_heap_of, [], []⟩
def dd__law_read : He.DefD := ⟨("_law_read", none), "_law_read", "_law_read", defArgs s__law_read, defBody s__law_read, defScope s__law_read, [], []⟩
def dd__law_line : He.DefD := ⟨("_law_line", none), "_law_line", "_law_line", defArgs s__law_line, defBody s__law_line, defScope s__law_line, [], []⟩
def dd__law_written : He.DefD := ⟨("_law_written", none), "_law_written", "_law_written", defArgs s__law_written, defBody s__law_written, defScope s__law_written, [], []⟩
def dd__law_is_first : He.DefD := ⟨("_law_is_first", none), "_law_is_first", "_law_is_first", defArgs s__law_is_first, defBody s__law_is_first, defScope s__law_is_first, [], []⟩
def dd__law_drawn : He.DefD := ⟨("_law_drawn", none), "_law_drawn", "_law_drawn", defArgs s__law_drawn, defBody s__law_drawn, defScope s__law_drawn, [], []⟩
def dd__law_orders : He.DefD := ⟨("_law_orders", none), "_law_orders", "_law_orders", defArgs s__law_orders, defBody s__law_orders, defScope s__law_orders, [], []⟩
def dd_many_of_heap : He.DefD := ⟨("many_of_heap", none), "many_of_heap", "many_of_heap", defArgs s_many_of_heap, defBody s_many_of_heap, defScope s_many_of_heap, [], []⟩
def dd_heap_and_turn : He.DefD := ⟨("heap_and_turn", none), "heap_and_turn", "heap_and_turn", defArgs s_heap_and_turn, defBody s_heap_and_turn, defScope s_heap_and_turn, [], []⟩
def dd_heap_of_row : He.DefD := ⟨("heap_of_row", none), "heap_of_row", "heap_of_row", defArgs s_heap_of_row, defBody s_heap_of_row, defScope s_heap_of_row, [], []⟩
def dd_many_alike : He.DefD := ⟨("many_alike", none), "many_alike", "many_alike", defArgs s_many_alike, defBody s_many_alike, defScope s_many_alike, [], []⟩
def dd_law : He.DefD := ⟨("law", none), "law", "law", defArgs s_law, defBody s_law, defScope s_law, [], []⟩
def fn : List He.DefD := [dd__law_deck, dd__law_draw, dd__law_shuffled, dd__law_base, dd__law_crossed, dd__law_after, dd__law_keeps, dd__law_kept, dd__law_mirrored, dd__law_lefts, dd__law_table, dd_is_twice_fault, dd_is_left_fault, dd_is_right_fault, dd_met_row, dd_is_three_fault, dd_fault_of, dd_is_integer, dd_is_size, dd_is_rows, dd_is_below, dd_is_kinds, dd_is_pair, dd_is_table, dd_is_rule, dd_need_rule, dd_is_heap, dd_is_full_heap, dd_identity, dd_after, dd_first_by, dd_lefts_of, dd_first_row, dd__law_same, dd__law_is_least, dd_need_row, dd_order_by, dd_order_of, dd_heap_by, dd_heap_of, dd__law_read, dd__law_line, dd__law_written, dd__law_is_first, dd__law_drawn, dd__law_orders, dd_many_of_heap, dd_heap_and_turn, dd_heap_of_row, dd_many_alike, dd_law]
def fa : List He.Fa := [.glo "_law_deck", .glo "_law_draw", .glo "_law_shuffled", .glo "_law_base", .glo "_law_crossed", .glo "_law_after", .glo "_law_keeps", .glo "_law_kept", .glo "_law_mirrored", .glo "_law_lefts", .glo "_law_table", .glo "is_twice_fault", .glo "is_left_fault", .glo "is_right_fault", .glo "met_row", .glo "is_three_fault", .glo "fault_of", .glo "is_integer", .glo "is_size", .glo "is_rows", .glo "is_below", .glo "is_kinds", .glo "is_pair", .glo "is_table", .glo "is_rule", .glo "need_rule", .glo "is_heap", .glo "is_full_heap", .glo "identity", .glo "after", .glo "first_by", .glo "lefts_of", .glo "first_row", .glo "_law_same", .glo "_law_is_least", .glo "need_row", .glo "order_by", .glo "order_of", .glo "heap_by", .glo "heap_of", .glo "_law_read", .glo "_law_line", .glo "_law_written", .glo "_law_is_first", .glo "_law_drawn", .glo "_law_orders", .glo "many_of_heap", .glo "heap_and_turn", .glo "heap_of_row", .glo "many_alike", .glo "law", .free "all", .free "bool", .free "enumerate", .free "int", .free "isinstance", .free "len", .free "list", .free "max", .free "min", .free "range", .free "repr", .free "sum", .free "tuple", .int "MOST_KINDS" 8, .glo "FAULTS"]
def ts : List He.Tab := [(fun K => He.ga K "FAULTS", ["left", "right", "three"])]
def tf : List He.Defn := [("is_rows", none), ("is_kinds", none), ("is_table", none), ("is_heap", none), ("is_full_heap", none)]
def kv_FAULTS : List (Str × He.Dv) := [("left", .glo "is_left_fault"), ("right", .glo "is_right_fault"), ("three", .glo "is_three_fault")]
def exB (K : PySem.W.Frag) : Bool := He.valsB K (He.ga K "FAULTS") kv_FAULTS && He.eqO (PySem.W.nsIn K mainGlobals "factorial") (some (some (.builtin "math.factorial")))
def loose : List Str := (["factorial", "identity", "after", "lefts_of", "order_by", "heap_by", "heap_and_turn", "heap_of_row", "first_by", "FitError", "BadRule", "BadRow", "BadHeap", "MOST_KINDS", "is_integer", "is_below", "is_kinds", "is_heap", "is_full_heap", "is_size", "is_rows", "is_pair", "is_table", "met_row", "is_twice_fault"] : List Str) ++ (["is_left_fault", "is_right_fault", "is_three_fault", "FAULTS", "fault_of", "is_rule", "need_rule", "need_row", "order_of", "heap_of", "first_row", "many_of_heap", "many_alike", "_law_deck", "_law_draw", "_law_after", "_law_shuffled", "_law_base", "_law_keeps", "_law_kept", "_law_crossed", "_law_mirrored", "_law_lefts", "_law_table", "_law_read"] : List Str) ++ (["_law_written", "_law_same", "_law_is_least", "_law_line", "_law_orders", "_law_drawn", "_law_is_first"] : List Str)
abbrev R : PySem.W.OpenRow := PySem.W.OpenLaw.row PySem.Challenge.rw_threesfit_k15_first_rows_of_heaps
abbrev hk : PySem.W.Hook := He.hookX 4 fa fn ts tf exB
def ob (s : PySem.W.SharedT) : He.AlX := He.obsX 4 fa fn ts tf exB (HandSHeadRun.getT s)
theorem ob_eq (s : PySem.W.SharedT) : ob s = hk.obs s.abs := He.obsX_eq (HandSHeadRun.getT_eq s)
theorem run_false (w : World) : HandSHeadRun.RunEqI R (PySem.W.view R.prog [0, 65]) hk ob 14000 loose (w.withFollow "special-get-raises" false) := by
  delta HandSHeadRun.RunEqI
  kernel_rfl
theorem run_true (w : World) : HandSHeadRun.RunEqI R (PySem.W.view R.prog [0, 65]) hk ob 14000 loose (w.withFollow "special-get-raises" true) := by
  delta HandSHeadRun.RunEqI
  kernel_rfl
theorem run (w : World) : HandSHeadRun.RunEqI R (PySem.W.view R.prog [0, 65]) hk ob 14000 loose w := PySem.W.byRow2 "special-get-raises" (P := fun w => HandSHeadRun.RunEqI R (PySem.W.view R.prog [0, 65]) hk ob 14000 loose w) run_false run_true w
end K15
/-! from K15F.lean -/
set_option maxRecDepth 100000
set_option maxHeartbeats 4000000
/-! The defs as the head tells them, the law by its run. Printed by gen.py. -/
namespace K15
open PySem PySem.Spec PyProof.Rows L2 Ev
def TT (K : PySem.W.Frag) : Nat → Option Addr
  | 0 => some (He.ga K "is_left_fault")
  | 1 => some (He.ga K "is_right_fault")
  | 2 => some (He.ga K "is_three_fault")
  | _ => none
def cs (K : PySem.W.Frag) : List (Addr × Addr) := tf.map (He.cT K)
def tbs (K : PySem.W.Frag) (a : Addr) : Prop := a ∈ (cs K).map (·.2)
theorem facts {P : Program} {w : World} {K : PySem.W.Frag} {h : Heap} {mg : Str → Option Value} {f : Addr} (X : K.In h) (G : h.Ns mainGlobals mg) (hfa : mg ("law" : Str) = some (.ref f)) (c : He.SaysX fa fn ts tf exB w h K)
    (hrun : ∀ ns : List Int, ns.length ≤ 63 → (F_law [.scr (ns.map D.int)]).run none (fun d _ => d = .bl true) noX) : Nonempty (LawG P w K 13 63 "script" mg f h) := by
  obtain ⟨fd__law_deck, FD__law_deck⟩ := c.t.d.def_ 0 (d := dd__law_deck) rfl
  replace FD__law_deck : FunD K "_law_deck" "_law_deck" (defArgs s__law_deck) (defBody s__law_deck) (defScope s__law_deck) [] [] (He.ga K "_law_deck") fd__law_deck := FD__law_deck
  have m__law_deck := He.glo_ok X G (c.t.d.fact 0 (f := .glo "_law_deck") rfl)
  obtain ⟨fd__law_draw, FD__law_draw⟩ := c.t.d.def_ 1 (d := dd__law_draw) rfl
  replace FD__law_draw : FunD K "_law_draw" "_law_draw" (defArgs s__law_draw) (defBody s__law_draw) (defScope s__law_draw) [] [] (He.ga K "_law_draw") fd__law_draw := FD__law_draw
  have m__law_draw := He.glo_ok X G (c.t.d.fact 1 (f := .glo "_law_draw") rfl)
  obtain ⟨fd__law_shuffled, FD__law_shuffled⟩ := c.t.d.def_ 2 (d := dd__law_shuffled) rfl
  replace FD__law_shuffled : FunD K "_law_shuffled" "_law_shuffled" (defArgs s__law_shuffled) (defBody s__law_shuffled) (defScope s__law_shuffled) [] [] (He.ga K "_law_shuffled") fd__law_shuffled := FD__law_shuffled
  have m__law_shuffled := He.glo_ok X G (c.t.d.fact 2 (f := .glo "_law_shuffled") rfl)
  obtain ⟨fd__law_base, FD__law_base⟩ := c.t.d.def_ 3 (d := dd__law_base) rfl
  replace FD__law_base : FunD K "_law_base" "_law_base" (defArgs s__law_base) (defBody s__law_base) (defScope s__law_base) [] [] (He.ga K "_law_base") fd__law_base := FD__law_base
  have m__law_base := He.glo_ok X G (c.t.d.fact 3 (f := .glo "_law_base") rfl)
  obtain ⟨fd__law_crossed, FD__law_crossed⟩ := c.t.d.def_ 4 (d := dd__law_crossed) rfl
  replace FD__law_crossed : FunD K "_law_crossed" "_law_crossed" (defArgs s__law_crossed) (defBody s__law_crossed) (defScope s__law_crossed) [] [] (He.ga K "_law_crossed") fd__law_crossed := FD__law_crossed
  have m__law_crossed := He.glo_ok X G (c.t.d.fact 4 (f := .glo "_law_crossed") rfl)
  obtain ⟨fd__law_after, FD__law_after⟩ := c.t.d.def_ 5 (d := dd__law_after) rfl
  replace FD__law_after : FunD K "_law_after" "_law_after" (defArgs s__law_after) (defBody s__law_after) (defScope s__law_after) [] [] (He.ga K "_law_after") fd__law_after := FD__law_after
  have m__law_after := He.glo_ok X G (c.t.d.fact 5 (f := .glo "_law_after") rfl)
  obtain ⟨fd__law_keeps, FD__law_keeps⟩ := c.t.d.def_ 6 (d := dd__law_keeps) rfl
  replace FD__law_keeps : FunD K "_law_keeps" "_law_keeps" (defArgs s__law_keeps) (defBody s__law_keeps) (defScope s__law_keeps) [] [] (He.ga K "_law_keeps") fd__law_keeps := FD__law_keeps
  have m__law_keeps := He.glo_ok X G (c.t.d.fact 6 (f := .glo "_law_keeps") rfl)
  obtain ⟨fd__law_kept, FD__law_kept⟩ := c.t.d.def_ 7 (d := dd__law_kept) rfl
  replace FD__law_kept : FunD K "_law_kept" "_law_kept" (defArgs s__law_kept) (defBody s__law_kept) (defScope s__law_kept) [] [] (He.ga K "_law_kept") fd__law_kept := FD__law_kept
  have m__law_kept := He.glo_ok X G (c.t.d.fact 7 (f := .glo "_law_kept") rfl)
  obtain ⟨fd__law_mirrored, FD__law_mirrored⟩ := c.t.d.def_ 8 (d := dd__law_mirrored) rfl
  replace FD__law_mirrored : FunD K "_law_mirrored" "_law_mirrored" (defArgs s__law_mirrored) (defBody s__law_mirrored) (defScope s__law_mirrored) [] [] (He.ga K "_law_mirrored") fd__law_mirrored := FD__law_mirrored
  have m__law_mirrored := He.glo_ok X G (c.t.d.fact 8 (f := .glo "_law_mirrored") rfl)
  obtain ⟨fd__law_lefts, FD__law_lefts⟩ := c.t.d.def_ 9 (d := dd__law_lefts) rfl
  replace FD__law_lefts : FunD K "_law_lefts" "_law_lefts" (defArgs s__law_lefts) (defBody s__law_lefts) (defScope s__law_lefts) [] [] (He.ga K "_law_lefts") fd__law_lefts := FD__law_lefts
  have m__law_lefts := He.glo_ok X G (c.t.d.fact 9 (f := .glo "_law_lefts") rfl)
  obtain ⟨fd__law_table, FD__law_table⟩ := c.t.d.def_ 10 (d := dd__law_table) rfl
  replace FD__law_table : FunD K "_law_table" "_law_table" (defArgs s__law_table) (defBody s__law_table) (defScope s__law_table) [] [] (He.ga K "_law_table") fd__law_table := FD__law_table
  have m__law_table := He.glo_ok X G (c.t.d.fact 10 (f := .glo "_law_table") rfl)
  obtain ⟨fd_is_twice_fault, FD_is_twice_fault⟩ := c.t.d.def_ 11 (d := dd_is_twice_fault) rfl
  replace FD_is_twice_fault : FunD K "is_twice_fault" "is_twice_fault" (defArgs s_is_twice_fault) (defBody s_is_twice_fault) (defScope s_is_twice_fault) [] [] (He.ga K "is_twice_fault") fd_is_twice_fault := FD_is_twice_fault
  have m_is_twice_fault := He.glo_ok X G (c.t.d.fact 11 (f := .glo "is_twice_fault") rfl)
  obtain ⟨fd_is_left_fault, FD_is_left_fault⟩ := c.t.d.def_ 12 (d := dd_is_left_fault) rfl
  replace FD_is_left_fault : FunD K "is_left_fault" "is_left_fault" (defArgs s_is_left_fault) (defBody s_is_left_fault) (defScope s_is_left_fault) [] [] (He.ga K "is_left_fault") fd_is_left_fault := FD_is_left_fault
  have m_is_left_fault := He.glo_ok X G (c.t.d.fact 12 (f := .glo "is_left_fault") rfl)
  obtain ⟨fd_is_right_fault, FD_is_right_fault⟩ := c.t.d.def_ 13 (d := dd_is_right_fault) rfl
  replace FD_is_right_fault : FunD K "is_right_fault" "is_right_fault" (defArgs s_is_right_fault) (defBody s_is_right_fault) (defScope s_is_right_fault) [] [] (He.ga K "is_right_fault") fd_is_right_fault := FD_is_right_fault
  have m_is_right_fault := He.glo_ok X G (c.t.d.fact 13 (f := .glo "is_right_fault") rfl)
  obtain ⟨fd_met_row, FD_met_row⟩ := c.t.d.def_ 14 (d := dd_met_row) rfl
  replace FD_met_row : FunD K "met_row" "met_row" (defArgs s_met_row) (defBody s_met_row) (defScope s_met_row) [] [] (He.ga K "met_row") fd_met_row := FD_met_row
  have m_met_row := He.glo_ok X G (c.t.d.fact 14 (f := .glo "met_row") rfl)
  obtain ⟨fd_is_three_fault, FD_is_three_fault⟩ := c.t.d.def_ 15 (d := dd_is_three_fault) rfl
  replace FD_is_three_fault : FunD K "is_three_fault" "is_three_fault" (defArgs s_is_three_fault) (defBody s_is_three_fault) (defScope s_is_three_fault) [] [] (He.ga K "is_three_fault") fd_is_three_fault := FD_is_three_fault
  have m_is_three_fault := He.glo_ok X G (c.t.d.fact 15 (f := .glo "is_three_fault") rfl)
  obtain ⟨fd_fault_of, FD_fault_of⟩ := c.t.d.def_ 16 (d := dd_fault_of) rfl
  replace FD_fault_of : FunD K "fault_of" "fault_of" (defArgs s_fault_of) (defBody s_fault_of) (defScope s_fault_of) [] [] (He.ga K "fault_of") fd_fault_of := FD_fault_of
  have m_fault_of := He.glo_ok X G (c.t.d.fact 16 (f := .glo "fault_of") rfl)
  obtain ⟨fd_is_integer, FD_is_integer⟩ := c.t.d.def_ 17 (d := dd_is_integer) rfl
  replace FD_is_integer : FunD K "is_integer" "is_integer" (defArgs s_is_integer) (defBody s_is_integer) (defScope s_is_integer) [] [] (He.ga K "is_integer") fd_is_integer := FD_is_integer
  have m_is_integer := He.glo_ok X G (c.t.d.fact 17 (f := .glo "is_integer") rfl)
  obtain ⟨fd_is_size, FD_is_size⟩ := c.t.d.def_ 18 (d := dd_is_size) rfl
  replace FD_is_size : FunD K "is_size" "is_size" (defArgs s_is_size) (defBody s_is_size) (defScope s_is_size) [] [] (He.ga K "is_size") fd_is_size := FD_is_size
  have m_is_size := He.glo_ok X G (c.t.d.fact 18 (f := .glo "is_size") rfl)
  obtain ⟨fd_is_rows, FD_is_rows⟩ := c.t.d.def_ 19 (d := dd_is_rows) rfl
  replace FD_is_rows : FunD K "is_rows" "is_rows" (defArgs s_is_rows) (defBody s_is_rows) (defScope s_is_rows) [] [] (He.ga K "is_rows") fd_is_rows := FD_is_rows
  have m_is_rows := He.glo_ok X G (c.t.d.fact 19 (f := .glo "is_rows") rfl)
  obtain ⟨fd_is_below, FD_is_below⟩ := c.t.d.def_ 20 (d := dd_is_below) rfl
  replace FD_is_below : FunD K "is_below" "is_below" (defArgs s_is_below) (defBody s_is_below) (defScope s_is_below) [] [] (He.ga K "is_below") fd_is_below := FD_is_below
  have m_is_below := He.glo_ok X G (c.t.d.fact 20 (f := .glo "is_below") rfl)
  obtain ⟨fd_is_kinds, FD_is_kinds⟩ := c.t.d.def_ 21 (d := dd_is_kinds) rfl
  replace FD_is_kinds : FunD K "is_kinds" "is_kinds" (defArgs s_is_kinds) (defBody s_is_kinds) (defScope s_is_kinds) [] [] (He.ga K "is_kinds") fd_is_kinds := FD_is_kinds
  have m_is_kinds := He.glo_ok X G (c.t.d.fact 21 (f := .glo "is_kinds") rfl)
  obtain ⟨fd_is_pair, FD_is_pair⟩ := c.t.d.def_ 22 (d := dd_is_pair) rfl
  replace FD_is_pair : FunD K "is_pair" "is_pair" (defArgs s_is_pair) (defBody s_is_pair) (defScope s_is_pair) [] [] (He.ga K "is_pair") fd_is_pair := FD_is_pair
  have m_is_pair := He.glo_ok X G (c.t.d.fact 22 (f := .glo "is_pair") rfl)
  obtain ⟨fd_is_table, FD_is_table⟩ := c.t.d.def_ 23 (d := dd_is_table) rfl
  replace FD_is_table : FunD K "is_table" "is_table" (defArgs s_is_table) (defBody s_is_table) (defScope s_is_table) [] [] (He.ga K "is_table") fd_is_table := FD_is_table
  have m_is_table := He.glo_ok X G (c.t.d.fact 23 (f := .glo "is_table") rfl)
  obtain ⟨fd_is_rule, FD_is_rule⟩ := c.t.d.def_ 24 (d := dd_is_rule) rfl
  replace FD_is_rule : FunD K "is_rule" "is_rule" (defArgs s_is_rule) (defBody s_is_rule) (defScope s_is_rule) [] [] (He.ga K "is_rule") fd_is_rule := FD_is_rule
  have m_is_rule := He.glo_ok X G (c.t.d.fact 24 (f := .glo "is_rule") rfl)
  obtain ⟨fd_need_rule, FD_need_rule⟩ := c.t.d.def_ 25 (d := dd_need_rule) rfl
  replace FD_need_rule : FunD K "need_rule" "need_rule" (defArgs s_need_rule) (defBody s_need_rule) (defScope s_need_rule) [] [] (He.ga K "need_rule") fd_need_rule := FD_need_rule
  have m_need_rule := He.glo_ok X G (c.t.d.fact 25 (f := .glo "need_rule") rfl)
  obtain ⟨fd_is_heap, FD_is_heap⟩ := c.t.d.def_ 26 (d := dd_is_heap) rfl
  replace FD_is_heap : FunD K "is_heap" "is_heap" (defArgs s_is_heap) (defBody s_is_heap) (defScope s_is_heap) [] [] (He.ga K "is_heap") fd_is_heap := FD_is_heap
  have m_is_heap := He.glo_ok X G (c.t.d.fact 26 (f := .glo "is_heap") rfl)
  obtain ⟨fd_is_full_heap, FD_is_full_heap⟩ := c.t.d.def_ 27 (d := dd_is_full_heap) rfl
  replace FD_is_full_heap : FunD K "is_full_heap" "is_full_heap" (defArgs s_is_full_heap) (defBody s_is_full_heap) (defScope s_is_full_heap) [] [] (He.ga K "is_full_heap") fd_is_full_heap := FD_is_full_heap
  have m_is_full_heap := He.glo_ok X G (c.t.d.fact 27 (f := .glo "is_full_heap") rfl)
  obtain ⟨fd_identity, FD_identity⟩ := c.t.d.def_ 28 (d := dd_identity) rfl
  replace FD_identity : FunD K "identity" "identity" (defArgs s_identity) (defBody s_identity) (defScope s_identity) [] [] (He.ga K "identity") fd_identity := FD_identity
  have m_identity := He.glo_ok X G (c.t.d.fact 28 (f := .glo "identity") rfl)
  obtain ⟨fd_after, FD_after⟩ := c.t.d.def_ 29 (d := dd_after) rfl
  replace FD_after : FunD K "after" "after" (defArgs s_after) (defBody s_after) (defScope s_after) [] [] (He.ga K "after") fd_after := FD_after
  have m_after := He.glo_ok X G (c.t.d.fact 29 (f := .glo "after") rfl)
  obtain ⟨fd_first_by, FD_first_by⟩ := c.t.d.def_ 30 (d := dd_first_by) rfl
  replace FD_first_by : FunD K "first_by" "first_by" (defArgs s_first_by) (defBody s_first_by) (defScope s_first_by) [] [] (He.ga K "first_by") fd_first_by := FD_first_by
  have m_first_by := He.glo_ok X G (c.t.d.fact 30 (f := .glo "first_by") rfl)
  obtain ⟨fd_lefts_of, FD_lefts_of⟩ := c.t.d.def_ 31 (d := dd_lefts_of) rfl
  replace FD_lefts_of : FunD K "lefts_of" "lefts_of" (defArgs s_lefts_of) (defBody s_lefts_of) (defScope s_lefts_of) [] [] (He.ga K "lefts_of") fd_lefts_of := FD_lefts_of
  have m_lefts_of := He.glo_ok X G (c.t.d.fact 31 (f := .glo "lefts_of") rfl)
  obtain ⟨fd_first_row, FD_first_row⟩ := c.t.d.def_ 32 (d := dd_first_row) rfl
  replace FD_first_row : FunD K "first_row" "first_row" (defArgs s_first_row) (defBody s_first_row) (defScope s_first_row) [] [] (He.ga K "first_row") fd_first_row := FD_first_row
  have m_first_row := He.glo_ok X G (c.t.d.fact 32 (f := .glo "first_row") rfl)
  obtain ⟨fd__law_same, FD__law_same⟩ := c.t.d.def_ 33 (d := dd__law_same) rfl
  replace FD__law_same : FunD K "_law_same" "_law_same" (defArgs s__law_same) (defBody s__law_same) (defScope s__law_same) [] [] (He.ga K "_law_same") fd__law_same := FD__law_same
  have m__law_same := He.glo_ok X G (c.t.d.fact 33 (f := .glo "_law_same") rfl)
  obtain ⟨fd__law_is_least, FD__law_is_least⟩ := c.t.d.def_ 34 (d := dd__law_is_least) rfl
  replace FD__law_is_least : FunD K "_law_is_least" "_law_is_least" (defArgs s__law_is_least) (defBody s__law_is_least) (defScope s__law_is_least) [] [] (He.ga K "_law_is_least") fd__law_is_least := FD__law_is_least
  have m__law_is_least := He.glo_ok X G (c.t.d.fact 34 (f := .glo "_law_is_least") rfl)
  obtain ⟨fd_need_row, FD_need_row⟩ := c.t.d.def_ 35 (d := dd_need_row) rfl
  replace FD_need_row : FunD K "need_row" "need_row" (defArgs s_need_row) (defBody s_need_row) (defScope s_need_row) [] [] (He.ga K "need_row") fd_need_row := FD_need_row
  have m_need_row := He.glo_ok X G (c.t.d.fact 35 (f := .glo "need_row") rfl)
  obtain ⟨fd_order_by, FD_order_by⟩ := c.t.d.def_ 36 (d := dd_order_by) rfl
  replace FD_order_by : FunD K "order_by" "order_by" (defArgs s_order_by) (defBody s_order_by) (defScope s_order_by) [] [] (He.ga K "order_by") fd_order_by := FD_order_by
  have m_order_by := He.glo_ok X G (c.t.d.fact 36 (f := .glo "order_by") rfl)
  obtain ⟨fd_order_of, FD_order_of⟩ := c.t.d.def_ 37 (d := dd_order_of) rfl
  replace FD_order_of : FunD K "order_of" "order_of" (defArgs s_order_of) (defBody s_order_of) (defScope s_order_of) [] [] (He.ga K "order_of") fd_order_of := FD_order_of
  have m_order_of := He.glo_ok X G (c.t.d.fact 37 (f := .glo "order_of") rfl)
  obtain ⟨fd_heap_by, FD_heap_by⟩ := c.t.d.def_ 38 (d := dd_heap_by) rfl
  replace FD_heap_by : FunD K "heap_by" "heap_by" (defArgs s_heap_by) (defBody s_heap_by) (defScope s_heap_by) [] [] (He.ga K "heap_by") fd_heap_by := FD_heap_by
  have m_heap_by := He.glo_ok X G (c.t.d.fact 38 (f := .glo "heap_by") rfl)
  obtain ⟨fd_heap_of, FD_heap_of⟩ := c.t.d.def_ 39 (d := dd_heap_of) rfl
  replace FD_heap_of : FunD K "heap_of" "heap_of" (defArgs s_heap_of) (defBody s_heap_of) (defScope s_heap_of) [] [] (He.ga K "heap_of") fd_heap_of := FD_heap_of
  have m_heap_of := He.glo_ok X G (c.t.d.fact 39 (f := .glo "heap_of") rfl)
  obtain ⟨fd__law_read, FD__law_read⟩ := c.t.d.def_ 40 (d := dd__law_read) rfl
  replace FD__law_read : FunD K "_law_read" "_law_read" (defArgs s__law_read) (defBody s__law_read) (defScope s__law_read) [] [] (He.ga K "_law_read") fd__law_read := FD__law_read
  have m__law_read := He.glo_ok X G (c.t.d.fact 40 (f := .glo "_law_read") rfl)
  obtain ⟨fd__law_line, FD__law_line⟩ := c.t.d.def_ 41 (d := dd__law_line) rfl
  replace FD__law_line : FunD K "_law_line" "_law_line" (defArgs s__law_line) (defBody s__law_line) (defScope s__law_line) [] [] (He.ga K "_law_line") fd__law_line := FD__law_line
  have m__law_line := He.glo_ok X G (c.t.d.fact 41 (f := .glo "_law_line") rfl)
  obtain ⟨fd__law_written, FD__law_written⟩ := c.t.d.def_ 42 (d := dd__law_written) rfl
  replace FD__law_written : FunD K "_law_written" "_law_written" (defArgs s__law_written) (defBody s__law_written) (defScope s__law_written) [] [] (He.ga K "_law_written") fd__law_written := FD__law_written
  have m__law_written := He.glo_ok X G (c.t.d.fact 42 (f := .glo "_law_written") rfl)
  obtain ⟨fd__law_is_first, FD__law_is_first⟩ := c.t.d.def_ 43 (d := dd__law_is_first) rfl
  replace FD__law_is_first : FunD K "_law_is_first" "_law_is_first" (defArgs s__law_is_first) (defBody s__law_is_first) (defScope s__law_is_first) [] [] (He.ga K "_law_is_first") fd__law_is_first := FD__law_is_first
  have m__law_is_first := He.glo_ok X G (c.t.d.fact 43 (f := .glo "_law_is_first") rfl)
  obtain ⟨fd__law_drawn, FD__law_drawn⟩ := c.t.d.def_ 44 (d := dd__law_drawn) rfl
  replace FD__law_drawn : FunD K "_law_drawn" "_law_drawn" (defArgs s__law_drawn) (defBody s__law_drawn) (defScope s__law_drawn) [] [] (He.ga K "_law_drawn") fd__law_drawn := FD__law_drawn
  have m__law_drawn := He.glo_ok X G (c.t.d.fact 44 (f := .glo "_law_drawn") rfl)
  obtain ⟨fd__law_orders, FD__law_orders⟩ := c.t.d.def_ 45 (d := dd__law_orders) rfl
  replace FD__law_orders : FunD K "_law_orders" "_law_orders" (defArgs s__law_orders) (defBody s__law_orders) (defScope s__law_orders) [] [] (He.ga K "_law_orders") fd__law_orders := FD__law_orders
  have m__law_orders := He.glo_ok X G (c.t.d.fact 45 (f := .glo "_law_orders") rfl)
  obtain ⟨fd_many_of_heap, FD_many_of_heap⟩ := c.t.d.def_ 46 (d := dd_many_of_heap) rfl
  replace FD_many_of_heap : FunD K "many_of_heap" "many_of_heap" (defArgs s_many_of_heap) (defBody s_many_of_heap) (defScope s_many_of_heap) [] [] (He.ga K "many_of_heap") fd_many_of_heap := FD_many_of_heap
  have m_many_of_heap := He.glo_ok X G (c.t.d.fact 46 (f := .glo "many_of_heap") rfl)
  obtain ⟨fd_heap_and_turn, FD_heap_and_turn⟩ := c.t.d.def_ 47 (d := dd_heap_and_turn) rfl
  replace FD_heap_and_turn : FunD K "heap_and_turn" "heap_and_turn" (defArgs s_heap_and_turn) (defBody s_heap_and_turn) (defScope s_heap_and_turn) [] [] (He.ga K "heap_and_turn") fd_heap_and_turn := FD_heap_and_turn
  have m_heap_and_turn := He.glo_ok X G (c.t.d.fact 47 (f := .glo "heap_and_turn") rfl)
  obtain ⟨fd_heap_of_row, FD_heap_of_row⟩ := c.t.d.def_ 48 (d := dd_heap_of_row) rfl
  replace FD_heap_of_row : FunD K "heap_of_row" "heap_of_row" (defArgs s_heap_of_row) (defBody s_heap_of_row) (defScope s_heap_of_row) [] [] (He.ga K "heap_of_row") fd_heap_of_row := FD_heap_of_row
  have m_heap_of_row := He.glo_ok X G (c.t.d.fact 48 (f := .glo "heap_of_row") rfl)
  obtain ⟨fd_many_alike, FD_many_alike⟩ := c.t.d.def_ 49 (d := dd_many_alike) rfl
  replace FD_many_alike : FunD K "many_alike" "many_alike" (defArgs s_many_alike) (defBody s_many_alike) (defScope s_many_alike) [] [] (He.ga K "many_alike") fd_many_alike := FD_many_alike
  have m_many_alike := He.glo_ok X G (c.t.d.fact 49 (f := .glo "many_alike") rfl)
  obtain ⟨fd_law, FD_law⟩ := c.t.d.def_ 50 (d := dd_law) rfl
  replace FD_law : FunD K "law" "law" (defArgs s_law) (defBody s_law) (defScope s_law) [] [] (He.ga K "law") fd_law := FD_law
  have m_law := He.glo_ok X G (c.t.d.fact 50 (f := .glo "law") rfl)
  have ef : f = He.ga K "law" := by
    have e := hfa.symm.trans m_law
    cases e; rfl
  subst ef
  have mi_factorial : mg "factorial" = some (.builtin "math.factorial") := PySem.W.mg_of X G (He.eqO_ok (by have := c.more; simp only [exB, Bool.and_eq_true] at this; simp only [this]))
  have B : Free mg := ⟨He.free_ok X G (c.t.d.fact 51 (f := .free "all") rfl), He.free_ok X G (c.t.d.fact 52 (f := .free "bool") rfl), He.free_ok X G (c.t.d.fact 53 (f := .free "enumerate") rfl), He.free_ok X G (c.t.d.fact 54 (f := .free "int") rfl), He.free_ok X G (c.t.d.fact 55 (f := .free "isinstance") rfl), He.free_ok X G (c.t.d.fact 56 (f := .free "len") rfl), He.free_ok X G (c.t.d.fact 57 (f := .free "list") rfl), He.free_ok X G (c.t.d.fact 58 (f := .free "max") rfl), He.free_ok X G (c.t.d.fact 59 (f := .free "min") rfl), He.free_ok X G (c.t.d.fact 60 (f := .free "range") rfl), He.free_ok X G (c.t.d.fact 61 (f := .free "repr") rfl), He.free_ok X G (c.t.d.fact 62 (f := .free "sum") rfl), He.free_ok X G (c.t.d.fact 63 (f := .free "tuple") rfl), He.int_ok X G (c.t.d.fact 64 (f := .int "MOST_KINDS" 8) rfl), mi_factorial⟩
  obtain ⟨es_FAULTS, en_FAULTS, kd_FAULTS⟩ := c.t.tab 0 rfl
  have mt_FAULTS := He.glo_ok X G (c.t.d.fact 65 (f := .glo "FAULTS") rfl)
  have cm_FAULTS : He.valsB K (He.ga K "FAULTS") kv_FAULTS = true := by have := c.more; simp only [exB, Bool.and_eq_true] at this; simp only [this]
  have h_FAULTS : Tab_FAULTS K w mg (TT K) (He.ga K "FAULTS") es_FAULTS en_FAULTS := ⟨kd_FAULTS, mt_FAULTS, fun z dd e => by
    have m := mem_lookup e
    simp only [t_FAULTS, List.mem_cons, List.not_mem_nil, or_false, Prod.mk.injEq] at m
    rcases m with ⟨rfl, rfl⟩ | ⟨rfl, rfl⟩ | ⟨rfl, rfl⟩
    · obtain ⟨u, h1, h2⟩ := He.valsB_ok cm_FAULTS (q := ("left", .glo "is_left_fault")) (by simp [kv_FAULTS])
      exact ⟨u, _, h1, h2, fun G => .fn rfl⟩
    · obtain ⟨u, h1, h2⟩ := He.valsB_ok cm_FAULTS (q := ("right", .glo "is_right_fault")) (by simp [kv_FAULTS])
      exact ⟨u, _, h1, h2, fun G => .fn rfl⟩
    · obtain ⟨u, h1, h2⟩ := He.valsB_ok cm_FAULTS (q := ("three", .glo "is_three_fault")) (by simp [kv_FAULTS])
      exact ⟨u, _, h1, h2, fun G => .fn rfl⟩⟩
  refine ⟨⟨fd_law, cs K, spF K (TT K) (Wdk dkk (tbs K)) 1 F_law, fun p hp => ?_, fun p hp => ?_, fun p hp => ?_, fun s u => FunD.bindsA (ps := ["script"]) FD_law (fun _ _ _ _ _ _ us hl => match us, hl with | [_], _ => rfl) s [u] rfl, fun H a ns hl _ ht hH hS hfr => ?_, fun base KB NB TBS => ?_⟩⟩
  · obtain ⟨p0, h1, rfl⟩ := List.mem_map.mp hp
    exact c.empty p0 h1
  · obtain ⟨p0, h1, rfl⟩ := List.mem_map.mp hp
    exact c.out p0 h1
  · obtain ⟨p0, h1, rfl⟩ := List.mem_map.mp hp
    exact PySem.W.codeHd_of_K X (c.hd p0 h1)
  · refine sp_law hH (fun b tb => ?_) (fun tb => ?_) hS (hrun ns hl)
    · obtain ⟨p, h1, rfl⟩ := List.mem_map.mp tb
      exact ht p h1
    · obtain ⟨p, h1, e⟩ := List.mem_map.mp tb
      have e1 := ht p h1
      rw [e] at e1
      rcases hfr with ⟨o, z⟩ | ⟨z, _⟩ <;> rw [z] at e1 <;> cases e1
  · have B := B
    have GF__law_deck : FnG P w K mg base Ev.CX0 1 (He.ga K "_law_deck") fd__law_deck P__law_deck (spF K (TT K) (Wdk dkk (tbs K)) 1 F__law_deck) := fn_at FD__law_deck sc__law_deck (fun cdv A outer s H E _ _ hr hg => d__law_deck B hr hg)
    have K__law_deck : Known P w K mg base (TT K) (Wdk dkk (tbs K)) 1 "_law_deck" 1 F__law_deck := ⟨_, _, _, GF__law_deck, m__law_deck, FD__law_deck.kp, FD__law_deck.bindsN (ps := P__law_deck) fun _ _ _ _ _ _ us hl => match us, hl with | [_], _ => rfl⟩
    have GF__law_draw : FnG P w K mg base Ev.CX0 1 (He.ga K "_law_draw") fd__law_draw P__law_draw (spF K (TT K) (Wdk dkk (tbs K)) 2 F__law_draw) := fn_at FD__law_draw sc__law_draw (fun cdv A outer s H E _ _ hr hg => d__law_draw B hr hg)
    have K__law_draw : Known P w K mg base (TT K) (Wdk dkk (tbs K)) 1 "_law_draw" 2 F__law_draw := ⟨_, _, _, GF__law_draw, m__law_draw, FD__law_draw.kp, FD__law_draw.bindsN (ps := P__law_draw) fun _ _ _ _ _ _ us hl => match us, hl with | [_, _], _ => rfl⟩
    have GF__law_shuffled : FnG P w K mg base Ev.CX0 2 (He.ga K "_law_shuffled") fd__law_shuffled P__law_shuffled (spF K (TT K) (Wdk dkk (tbs K)) 2 F__law_shuffled) := fn_at FD__law_shuffled sc__law_shuffled (fun cdv A outer s H E _ _ hr hg => d__law_shuffled B K__law_draw hr hg)
    have K__law_shuffled : Known P w K mg base (TT K) (Wdk dkk (tbs K)) 2 "_law_shuffled" 2 F__law_shuffled := ⟨_, _, _, GF__law_shuffled, m__law_shuffled, FD__law_shuffled.kp, FD__law_shuffled.bindsN (ps := P__law_shuffled) fun _ _ _ _ _ _ us hl => match us, hl with | [_, _], _ => rfl⟩
    have GF__law_base : FnG P w K mg base Ev.CX0 3 (He.ga K "_law_base") fd__law_base P__law_base (spF K (TT K) (Wdk dkk (tbs K)) 2 F__law_base) := fn_at FD__law_base sc__law_base (fun cdv A outer s H E _ _ hr hg => d__law_base B K__law_draw K__law_shuffled hr hg)
    have K__law_base : Known P w K mg base (TT K) (Wdk dkk (tbs K)) 3 "_law_base" 2 F__law_base := ⟨_, _, _, GF__law_base, m__law_base, FD__law_base.kp, FD__law_base.bindsN (ps := P__law_base) fun _ _ _ _ _ _ us hl => match us, hl with | [_, _], _ => rfl⟩
    have GF__law_crossed : FnG P w K mg base Ev.CX0 1 (He.ga K "_law_crossed") fd__law_crossed P__law_crossed (spF K (TT K) (Wdk dkk (tbs K)) 4 F__law_crossed) := fn_at FD__law_crossed sc__law_crossed (fun cdv A outer s H E _ _ hr hg => d__law_crossed B hr hg)
    have K__law_crossed : Known P w K mg base (TT K) (Wdk dkk (tbs K)) 1 "_law_crossed" 4 F__law_crossed := ⟨_, _, _, GF__law_crossed, m__law_crossed, FD__law_crossed.kp, FD__law_crossed.bindsN (ps := P__law_crossed) fun _ _ _ _ _ _ us hl => match us, hl with | [_, _, _, _], _ => rfl⟩
    have GF__law_after : FnG P w K mg base Ev.CX0 1 (He.ga K "_law_after") fd__law_after P__law_after (spF K (TT K) (Wdk dkk (tbs K)) 2 F__law_after) := fn_at FD__law_after sc__law_after (fun cdv A outer s H E _ _ hr hg => d__law_after B hr hg)
    have K__law_after : Known P w K mg base (TT K) (Wdk dkk (tbs K)) 1 "_law_after" 2 F__law_after := ⟨_, _, _, GF__law_after, m__law_after, FD__law_after.kp, FD__law_after.bindsN (ps := P__law_after) fun _ _ _ _ _ _ us hl => match us, hl with | [_, _], _ => rfl⟩
    have GF__law_keeps : FnG P w K mg base Ev.CX0 2 (He.ga K "_law_keeps") fd__law_keeps P__law_keeps (spF K (TT K) (Wdk dkk (tbs K)) 2 F__law_keeps) := fn_at FD__law_keeps sc__law_keeps (fun cdv A outer s H E _ _ hr hg => d__law_keeps B K__law_after hr hg)
    have K__law_keeps : Known P w K mg base (TT K) (Wdk dkk (tbs K)) 2 "_law_keeps" 2 F__law_keeps := ⟨_, _, _, GF__law_keeps, m__law_keeps, FD__law_keeps.kp, FD__law_keeps.bindsN (ps := P__law_keeps) fun _ _ _ _ _ _ us hl => match us, hl with | [_, _], _ => rfl⟩
    have GF__law_kept : FnG P w K mg base Ev.CX0 3 (He.ga K "_law_kept") fd__law_kept P__law_kept (spF K (TT K) (Wdk dkk (tbs K)) 2 F__law_kept) := fn_at FD__law_kept sc__law_kept (fun cdv A outer s H E _ _ hr hg => d__law_kept B K__law_draw K__law_after K__law_shuffled K__law_keeps hr hg)
    have K__law_kept : Known P w K mg base (TT K) (Wdk dkk (tbs K)) 3 "_law_kept" 2 F__law_kept := ⟨_, _, _, GF__law_kept, m__law_kept, FD__law_kept.kp, FD__law_kept.bindsN (ps := P__law_kept) fun _ _ _ _ _ _ us hl => match us, hl with | [_, _], _ => rfl⟩
    have GF__law_mirrored : FnG P w K mg base Ev.CX0 1 (He.ga K "_law_mirrored") fd__law_mirrored P__law_mirrored (spF K (TT K) (Wdk dkk (tbs K)) 1 F__law_mirrored) := fn_at FD__law_mirrored sc__law_mirrored (fun cdv A outer s H E _ _ hr hg => d__law_mirrored B hr hg)
    have K__law_mirrored : Known P w K mg base (TT K) (Wdk dkk (tbs K)) 1 "_law_mirrored" 1 F__law_mirrored := ⟨_, _, _, GF__law_mirrored, m__law_mirrored, FD__law_mirrored.kp, FD__law_mirrored.bindsN (ps := P__law_mirrored) fun _ _ _ _ _ _ us hl => match us, hl with | [_], _ => rfl⟩
    have GF__law_lefts : FnG P w K mg base Ev.CX0 4 (He.ga K "_law_lefts") fd__law_lefts P__law_lefts (spF K (TT K) (Wdk dkk (tbs K)) 2 F__law_lefts) := fn_at FD__law_lefts sc__law_lefts (fun cdv A outer s H E _ _ hr hg => d__law_lefts B K__law_draw K__law_base K__law_crossed K__law_kept K__law_mirrored K__law_shuffled hr hg)
    have K__law_lefts : Known P w K mg base (TT K) (Wdk dkk (tbs K)) 4 "_law_lefts" 2 F__law_lefts := ⟨_, _, _, GF__law_lefts, m__law_lefts, FD__law_lefts.kp, FD__law_lefts.bindsN (ps := P__law_lefts) fun _ _ _ _ _ _ us hl => match us, hl with | [_, _], _ => rfl⟩
    have GF__law_table : FnG P w K mg base Ev.CX0 1 (He.ga K "_law_table") fd__law_table P__law_table (spF K (TT K) (Wdk dkk (tbs K)) 1 F__law_table) := fn_at FD__law_table sc__law_table (fun cdv A outer s H E _ _ hr hg => d__law_table B hr hg)
    have K__law_table : Known P w K mg base (TT K) (Wdk dkk (tbs K)) 1 "_law_table" 1 F__law_table := ⟨_, _, _, GF__law_table, m__law_table, FD__law_table.kp, FD__law_table.bindsN (ps := P__law_table) fun _ _ _ _ _ _ us hl => match us, hl with | [_], _ => rfl⟩
    have GF_is_twice_fault : FnG P w K mg base Ev.CX0 1 (He.ga K "is_twice_fault") fd_is_twice_fault P_is_twice_fault (spF K (TT K) (Wdk dkk (tbs K)) 3 F_is_twice_fault) := fn_at FD_is_twice_fault sc_is_twice_fault (fun cdv A outer s H E _ _ hr hg => d_is_twice_fault B hr hg)
    have K_is_twice_fault : Known P w K mg base (TT K) (Wdk dkk (tbs K)) 1 "is_twice_fault" 3 F_is_twice_fault := ⟨_, _, _, GF_is_twice_fault, m_is_twice_fault, FD_is_twice_fault.kp, FD_is_twice_fault.bindsN (ps := P_is_twice_fault) fun _ _ _ _ _ _ us hl => match us, hl with | [_, _, _], _ => rfl⟩
    have GF_is_left_fault : FnG P w K mg base Ev.CX0 1 (He.ga K "is_left_fault") fd_is_left_fault P_is_left_fault (spF K (TT K) (Wdk dkk (tbs K)) 4 F_is_left_fault) := fn_at FD_is_left_fault sc_is_left_fault (fun cdv A outer s H E _ _ hr hg => d_is_left_fault B hr hg)
    have K_is_left_fault : Known P w K mg base (TT K) (Wdk dkk (tbs K)) 1 "is_left_fault" 4 F_is_left_fault := ⟨_, _, _, GF_is_left_fault, m_is_left_fault, FD_is_left_fault.kp, FD_is_left_fault.bindsN (ps := P_is_left_fault) fun _ _ _ _ _ _ us hl => match us, hl with | [_, _, _, _], _ => rfl⟩
    have GF_is_right_fault : FnG P w K mg base Ev.CX0 1 (He.ga K "is_right_fault") fd_is_right_fault P_is_right_fault (spF K (TT K) (Wdk dkk (tbs K)) 4 F_is_right_fault) := fn_at FD_is_right_fault sc_is_right_fault (fun cdv A outer s H E _ _ hr hg => d_is_right_fault B hr hg)
    have K_is_right_fault : Known P w K mg base (TT K) (Wdk dkk (tbs K)) 1 "is_right_fault" 4 F_is_right_fault := ⟨_, _, _, GF_is_right_fault, m_is_right_fault, FD_is_right_fault.kp, FD_is_right_fault.bindsN (ps := P_is_right_fault) fun _ _ _ _ _ _ us hl => match us, hl with | [_, _, _, _], _ => rfl⟩
    have GF_met_row : FnG P w K mg base Ev.CX0 1 (He.ga K "met_row") fd_met_row P_met_row (spF K (TT K) (Wdk dkk (tbs K)) 3 F_met_row) := fn_at FD_met_row sc_met_row (fun cdv A outer s H E _ _ hr hg => d_met_row B hr hg)
    have K_met_row : Known P w K mg base (TT K) (Wdk dkk (tbs K)) 1 "met_row" 3 F_met_row := ⟨_, _, _, GF_met_row, m_met_row, FD_met_row.kp, FD_met_row.bindsN (ps := P_met_row) fun _ _ _ _ _ _ us hl => match us, hl with | [_, _, _], _ => rfl⟩
    have GF_is_three_fault : FnG P w K mg base Ev.CX0 2 (He.ga K "is_three_fault") fd_is_three_fault P_is_three_fault (spF K (TT K) (Wdk dkk (tbs K)) 4 F_is_three_fault) := fn_at FD_is_three_fault sc_is_three_fault (fun cdv A outer s H E _ _ hr hg => d_is_three_fault B K_met_row hr hg)
    have K_is_three_fault : Known P w K mg base (TT K) (Wdk dkk (tbs K)) 2 "is_three_fault" 4 F_is_three_fault := ⟨_, _, _, GF_is_three_fault, m_is_three_fault, FD_is_three_fault.kp, FD_is_three_fault.bindsN (ps := P_is_three_fault) fun _ _ _ _ _ _ us hl => match us, hl with | [_, _, _, _], _ => rfl⟩
    have HV : KnownV P w K mg base (TT K) (Wdk dkk (tbs K)) 2 ar_v Fs_v := ⟨fun g f e => match g, e with
      | 0, e => by cases e; exact ⟨_, _, FnG.mono GF_is_left_fault (by decide), FD_is_left_fault.kp, FD_is_left_fault.bindsN (ps := P_is_left_fault) fun _ _ _ _ _ _ us hl => match us, hl with | [_, _, _, _], _ => rfl⟩
      | 1, e => by cases e; exact ⟨_, _, FnG.mono GF_is_right_fault (by decide), FD_is_right_fault.kp, FD_is_right_fault.bindsN (ps := P_is_right_fault) fun _ _ _ _ _ _ us hl => match us, hl with | [_, _, _, _], _ => rfl⟩
      | 2, e => by cases e; exact ⟨_, _, FnG.mono GF_is_three_fault (by decide), FD_is_three_fault.kp, FD_is_three_fault.bindsN (ps := P_is_three_fault) fun _ _ _ _ _ _ us hl => match us, hl with | [_, _, _, _], _ => rfl⟩
      | _ + 3, e => nomatch e⟩
    have GF_fault_of : FnG P w K mg base Ev.CX0 3 (He.ga K "fault_of") fd_fault_of P_fault_of (spF K (TT K) (Wdk dkk (tbs K)) 1 F_fault_of) := fn_at FD_fault_of sc_fault_of (fun cdv A outer s H E _ _ hr hg => d_fault_of B K_is_twice_fault HV h_FAULTS hr hg)
    have K_fault_of : Known P w K mg base (TT K) (Wdk dkk (tbs K)) 3 "fault_of" 1 F_fault_of := ⟨_, _, _, GF_fault_of, m_fault_of, FD_fault_of.kp, FD_fault_of.bindsN (ps := P_fault_of) fun _ _ _ _ _ _ us hl => match us, hl with | [_], _ => rfl⟩
    have GF_is_integer : FnG P w K mg base Ev.CX0 1 (He.ga K "is_integer") fd_is_integer P_is_integer (spF K (TT K) (Wdk dkk (tbs K)) 1 F_is_integer) := fn_at FD_is_integer sc_is_integer (fun cdv A outer s H E _ _ hr hg => d_is_integer B hr hg)
    have K_is_integer : Known P w K mg base (TT K) (Wdk dkk (tbs K)) 1 "is_integer" 1 F_is_integer := ⟨_, _, _, GF_is_integer, m_is_integer, FD_is_integer.kp, FD_is_integer.bindsN (ps := P_is_integer) fun _ _ _ _ _ _ us hl => match us, hl with | [_], _ => rfl⟩
    have GF_is_size : FnG P w K mg base Ev.CX0 2 (He.ga K "is_size") fd_is_size P_is_size (spF K (TT K) (Wdk dkk (tbs K)) 1 F_is_size) := fn_at FD_is_size sc_is_size (fun cdv A outer s H E _ _ hr hg => d_is_size B K_is_integer hr hg)
    have K_is_size : Known P w K mg base (TT K) (Wdk dkk (tbs K)) 2 "is_size" 1 F_is_size := ⟨_, _, _, GF_is_size, m_is_size, FD_is_size.kp, FD_is_size.bindsN (ps := P_is_size) fun _ _ _ _ _ _ us hl => match us, hl with | [_], _ => rfl⟩
    have GF_is_rows : FnG P w K mg base Ev.CX0 3 (He.ga K "is_rows") fd_is_rows P_is_rows (spF K (TT K) (Wdk dkk (tbs K)) 1 F_is_rows) := fn_at FD_is_rows sc_is_rows (fun cdv A outer s H E hcd hc hr hg => by
      obtain ⟨cc, rfl⟩ := He.codeIn_ref hcd
      obtain ⟨oc, od, osl, lk, e⟩ := hc
      have TB := TBS (He.cT K ("is_rows", none)) (List.mem_map.mpr ⟨("is_rows", none), by decide, rfl⟩)
      have ec : He.codeOf K ("is_rows", none) = cc := He.codeOf_eq lk e
      have TB : GxR.TabB base mg cc (He.cT K ("is_rows", none)).2 := ec ▸ TB
      exact d_is_rows B K_is_size TB (List.mem_map.mpr ⟨_, List.mem_map.mpr ⟨("is_rows", none), by decide, rfl⟩, rfl⟩) hr hg)
    have K_is_rows : Known P w K mg base (TT K) (Wdk dkk (tbs K)) 3 "is_rows" 1 F_is_rows := ⟨_, _, _, GF_is_rows, m_is_rows, FD_is_rows.kp, FD_is_rows.bindsN (ps := P_is_rows) fun _ _ _ _ _ _ us hl => match us, hl with | [_], _ => rfl⟩
    have GF_is_below : FnG P w K mg base Ev.CX0 2 (He.ga K "is_below") fd_is_below P_is_below (spF K (TT K) (Wdk dkk (tbs K)) 2 F_is_below) := fn_at FD_is_below sc_is_below (fun cdv A outer s H E _ _ hr hg => d_is_below B K_is_integer hr hg)
    have K_is_below : Known P w K mg base (TT K) (Wdk dkk (tbs K)) 2 "is_below" 2 F_is_below := ⟨_, _, _, GF_is_below, m_is_below, FD_is_below.kp, FD_is_below.bindsN (ps := P_is_below) fun _ _ _ _ _ _ us hl => match us, hl with | [_, _], _ => rfl⟩
    have GF_is_kinds : FnG P w K mg base Ev.CX0 4 (He.ga K "is_kinds") fd_is_kinds P_is_kinds (spF K (TT K) (Wdk dkk (tbs K)) 2 F_is_kinds) := fn_at FD_is_kinds sc_is_kinds (fun cdv A outer s H E hcd hc hr hg => by
      obtain ⟨cc, rfl⟩ := He.codeIn_ref hcd
      obtain ⟨oc, od, osl, lk, e⟩ := hc
      have TB := TBS (He.cT K ("is_kinds", none)) (List.mem_map.mpr ⟨("is_kinds", none), by decide, rfl⟩)
      have ec : He.codeOf K ("is_kinds", none) = cc := He.codeOf_eq lk e
      have TB : GxR.TabB base mg cc (He.cT K ("is_kinds", none)).2 := ec ▸ TB
      exact d_is_kinds B K_is_below TB (List.mem_map.mpr ⟨_, List.mem_map.mpr ⟨("is_kinds", none), by decide, rfl⟩, rfl⟩) hr hg)
    have K_is_kinds : Known P w K mg base (TT K) (Wdk dkk (tbs K)) 4 "is_kinds" 2 F_is_kinds := ⟨_, _, _, GF_is_kinds, m_is_kinds, FD_is_kinds.kp, FD_is_kinds.bindsN (ps := P_is_kinds) fun _ _ _ _ _ _ us hl => match us, hl with | [_, _], _ => rfl⟩
    have GF_is_pair : FnG P w K mg base Ev.CX0 5 (He.ga K "is_pair") fd_is_pair P_is_pair (spF K (TT K) (Wdk dkk (tbs K)) 2 F_is_pair) := fn_at FD_is_pair sc_is_pair (fun cdv A outer s H E _ _ hr hg => d_is_pair B K_is_kinds hr hg)
    have K_is_pair : Known P w K mg base (TT K) (Wdk dkk (tbs K)) 5 "is_pair" 2 F_is_pair := ⟨_, _, _, GF_is_pair, m_is_pair, FD_is_pair.kp, FD_is_pair.bindsN (ps := P_is_pair) fun _ _ _ _ _ _ us hl => match us, hl with | [_, _], _ => rfl⟩
    have GF_is_table : FnG P w K mg base Ev.CX0 7 (He.ga K "is_table") fd_is_table P_is_table (spF K (TT K) (Wdk dkk (tbs K)) 1 F_is_table) := fn_at FD_is_table sc_is_table (fun cdv A outer s H E hcd hc hr hg => by
      obtain ⟨cc, rfl⟩ := He.codeIn_ref hcd
      obtain ⟨oc, od, osl, lk, e⟩ := hc
      have TB := TBS (He.cT K ("is_table", none)) (List.mem_map.mpr ⟨("is_table", none), by decide, rfl⟩)
      have ec : He.codeOf K ("is_table", none) = cc := He.codeOf_eq lk e
      have TB : GxR.TabB base mg cc (He.cT K ("is_table", none)).2 := ec ▸ TB
      exact d_is_table B K_is_rows K_is_pair TB (List.mem_map.mpr ⟨_, List.mem_map.mpr ⟨("is_table", none), by decide, rfl⟩, rfl⟩) hr hg)
    have K_is_table : Known P w K mg base (TT K) (Wdk dkk (tbs K)) 7 "is_table" 1 F_is_table := ⟨_, _, _, GF_is_table, m_is_table, FD_is_table.kp, FD_is_table.bindsN (ps := P_is_table) fun _ _ _ _ _ _ us hl => match us, hl with | [_], _ => rfl⟩
    have GF_is_rule : FnG P w K mg base Ev.CX0 8 (He.ga K "is_rule") fd_is_rule P_is_rule (spF K (TT K) (Wdk dkk (tbs K)) 1 F_is_rule) := fn_at FD_is_rule sc_is_rule (fun cdv A outer s H E _ _ hr hg => d_is_rule B K_fault_of K_is_table hr hg)
    have K_is_rule : Known P w K mg base (TT K) (Wdk dkk (tbs K)) 8 "is_rule" 1 F_is_rule := ⟨_, _, _, GF_is_rule, m_is_rule, FD_is_rule.kp, FD_is_rule.bindsN (ps := P_is_rule) fun _ _ _ _ _ _ us hl => match us, hl with | [_], _ => rfl⟩
    have GF_need_rule : FnG P w K mg base Ev.CX0 9 (He.ga K "need_rule") fd_need_rule P_need_rule (spF K (TT K) (Wdk dkk (tbs K)) 1 F_need_rule) := fn_at FD_need_rule sc_need_rule (fun cdv A outer s H E _ _ hr hg => d_need_rule B K_is_rule hr hg)
    have K_need_rule : Known P w K mg base (TT K) (Wdk dkk (tbs K)) 9 "need_rule" 1 F_need_rule := ⟨_, _, _, GF_need_rule, m_need_rule, FD_need_rule.kp, FD_need_rule.bindsN (ps := P_need_rule) fun _ _ _ _ _ _ us hl => match us, hl with | [_], _ => rfl⟩
    have GF_is_heap : FnG P w K mg base Ev.CX0 3 (He.ga K "is_heap") fd_is_heap P_is_heap (spF K (TT K) (Wdk dkk (tbs K)) 2 F_is_heap) := fn_at FD_is_heap sc_is_heap (fun cdv A outer s H E hcd hc hr hg => by
      obtain ⟨cc, rfl⟩ := He.codeIn_ref hcd
      obtain ⟨oc, od, osl, lk, e⟩ := hc
      have TB := TBS (He.cT K ("is_heap", none)) (List.mem_map.mpr ⟨("is_heap", none), by decide, rfl⟩)
      have ec : He.codeOf K ("is_heap", none) = cc := He.codeOf_eq lk e
      have TB : GxR.TabB base mg cc (He.cT K ("is_heap", none)).2 := ec ▸ TB
      exact d_is_heap B K_is_integer TB (List.mem_map.mpr ⟨_, List.mem_map.mpr ⟨("is_heap", none), by decide, rfl⟩, rfl⟩) hr hg)
    have K_is_heap : Known P w K mg base (TT K) (Wdk dkk (tbs K)) 3 "is_heap" 2 F_is_heap := ⟨_, _, _, GF_is_heap, m_is_heap, FD_is_heap.kp, FD_is_heap.bindsN (ps := P_is_heap) fun _ _ _ _ _ _ us hl => match us, hl with | [_, _], _ => rfl⟩
    have GF_is_full_heap : FnG P w K mg base Ev.CX0 4 (He.ga K "is_full_heap") fd_is_full_heap P_is_full_heap (spF K (TT K) (Wdk dkk (tbs K)) 2 F_is_full_heap) := fn_at FD_is_full_heap sc_is_full_heap (fun cdv A outer s H E hcd hc hr hg => by
      obtain ⟨cc, rfl⟩ := He.codeIn_ref hcd
      obtain ⟨oc, od, osl, lk, e⟩ := hc
      have TB := TBS (He.cT K ("is_full_heap", none)) (List.mem_map.mpr ⟨("is_full_heap", none), by decide, rfl⟩)
      have ec : He.codeOf K ("is_full_heap", none) = cc := He.codeOf_eq lk e
      have TB : GxR.TabB base mg cc (He.cT K ("is_full_heap", none)).2 := ec ▸ TB
      exact d_is_full_heap B K_is_heap TB (List.mem_map.mpr ⟨_, List.mem_map.mpr ⟨("is_full_heap", none), by decide, rfl⟩, rfl⟩) hr hg)
    have K_is_full_heap : Known P w K mg base (TT K) (Wdk dkk (tbs K)) 4 "is_full_heap" 2 F_is_full_heap := ⟨_, _, _, GF_is_full_heap, m_is_full_heap, FD_is_full_heap.kp, FD_is_full_heap.bindsN (ps := P_is_full_heap) fun _ _ _ _ _ _ us hl => match us, hl with | [_, _], _ => rfl⟩
    have GF_identity : FnG P w K mg base Ev.CX0 1 (He.ga K "identity") fd_identity P_identity (spF K (TT K) (Wdk dkk (tbs K)) 1 F_identity) := fn_at FD_identity sc_identity (fun cdv A outer s H E _ _ hr hg => d_identity B hr hg)
    have K_identity : Known P w K mg base (TT K) (Wdk dkk (tbs K)) 1 "identity" 1 F_identity := ⟨_, _, _, GF_identity, m_identity, FD_identity.kp, FD_identity.bindsN (ps := P_identity) fun _ _ _ _ _ _ us hl => match us, hl with | [_], _ => rfl⟩
    have GF_after : FnG P w K mg base Ev.CX0 1 (He.ga K "after") fd_after P_after (spF K (TT K) (Wdk dkk (tbs K)) 2 F_after) := fn_at FD_after sc_after (fun cdv A outer s H E _ _ hr hg => d_after B hr hg)
    have K_after : Known P w K mg base (TT K) (Wdk dkk (tbs K)) 1 "after" 2 F_after := ⟨_, _, _, GF_after, m_after, FD_after.kp, FD_after.bindsN (ps := P_after) fun _ _ _ _ _ _ us hl => match us, hl with | [_, _], _ => rfl⟩
    have GF_first_by : FnG P w K mg base Ev.CX0 2 (He.ga K "first_by") fd_first_by P_first_by (spF K (TT K) (Wdk dkk (tbs K)) 2 F_first_by) := fn_at FD_first_by sc_first_by (fun cdv A outer s H E _ _ hr hg => d_first_by B K_identity K_after hr hg)
    have K_first_by : Known P w K mg base (TT K) (Wdk dkk (tbs K)) 2 "first_by" 2 F_first_by := ⟨_, _, _, GF_first_by, m_first_by, FD_first_by.kp, FD_first_by.bindsN (ps := P_first_by) fun _ _ _ _ _ _ us hl => match us, hl with | [_, _], _ => rfl⟩
    have GF_lefts_of : FnG P w K mg base Ev.CX0 1 (He.ga K "lefts_of") fd_lefts_of P_lefts_of (spF K (TT K) (Wdk dkk (tbs K)) 1 F_lefts_of) := fn_at FD_lefts_of sc_lefts_of (fun cdv A outer s H E _ _ hr hg => d_lefts_of B hr hg)
    have K_lefts_of : Known P w K mg base (TT K) (Wdk dkk (tbs K)) 1 "lefts_of" 1 F_lefts_of := ⟨_, _, _, GF_lefts_of, m_lefts_of, FD_lefts_of.kp, FD_lefts_of.bindsN (ps := P_lefts_of) fun _ _ _ _ _ _ us hl => match us, hl with | [_], _ => rfl⟩
    have GF_first_row : FnG P w K mg base Ev.CX0 10 (He.ga K "first_row") fd_first_row P_first_row (spF K (TT K) (Wdk dkk (tbs K)) 2 F_first_row) := fn_at FD_first_row sc_first_row (fun cdv A outer s H E _ _ hr hg => d_first_row B K_need_rule K_is_full_heap K_first_by K_lefts_of hr hg)
    have K_first_row : Known P w K mg base (TT K) (Wdk dkk (tbs K)) 10 "first_row" 2 F_first_row := ⟨_, _, _, GF_first_row, m_first_row, FD_first_row.kp, FD_first_row.bindsN (ps := P_first_row) fun _ _ _ _ _ _ us hl => match us, hl with | [_, _], _ => rfl⟩
    have KK_first_row_heap_rule : KnownK P w K mg base (TT K) (Wdk dkk (tbs K)) 10 "first_row" 2 F_first_row ["heap", "rule"] 0 [1, 0] := knownK_of GF_first_row FD_first_row m_first_row (fun _ _ _ _ _ _ ws hl => match ws, hl with | [_, _], _ => rfl) (by decide)
    have GF__law_same : FnG P w K mg base Ev.CX0 1 (He.ga K "_law_same") fd__law_same P__law_same (spF K (TT K) (Wdk dkk (tbs K)) 2 F__law_same) := fn_at FD__law_same sc__law_same (fun cdv A outer s H E _ _ hr hg => d__law_same B hr hg)
    have K__law_same : Known P w K mg base (TT K) (Wdk dkk (tbs K)) 1 "_law_same" 2 F__law_same := ⟨_, _, _, GF__law_same, m__law_same, FD__law_same.kp, FD__law_same.bindsN (ps := P__law_same) fun _ _ _ _ _ _ us hl => match us, hl with | [_, _], _ => rfl⟩
    have GF__law_is_least : FnG P w K mg base Ev.CX0 2 (He.ga K "_law_is_least") fd__law_is_least P__law_is_least (spF K (TT K) (Wdk dkk (tbs K)) 3 F__law_is_least) := fn_at FD__law_is_least sc__law_is_least (fun cdv A outer s H E _ _ hr hg => d__law_is_least B K__law_after hr hg)
    have K__law_is_least : Known P w K mg base (TT K) (Wdk dkk (tbs K)) 2 "_law_is_least" 3 F__law_is_least := ⟨_, _, _, GF__law_is_least, m__law_is_least, FD__law_is_least.kp, FD__law_is_least.bindsN (ps := P__law_is_least) fun _ _ _ _ _ _ us hl => match us, hl with | [_, _, _], _ => rfl⟩
    have GF_need_row : FnG P w K mg base Ev.CX0 5 (He.ga K "need_row") fd_need_row P_need_row (spF K (TT K) (Wdk dkk (tbs K)) 2 F_need_row) := fn_at FD_need_row sc_need_row (fun cdv A outer s H E _ _ hr hg => d_need_row B K_is_kinds hr hg)
    have K_need_row : Known P w K mg base (TT K) (Wdk dkk (tbs K)) 5 "need_row" 2 F_need_row := ⟨_, _, _, GF_need_row, m_need_row, FD_need_row.kp, FD_need_row.bindsN (ps := P_need_row) fun _ _ _ _ _ _ us hl => match us, hl with | [_, _], _ => rfl⟩
    have GF_order_by : FnG P w K mg base Ev.CX0 2 (He.ga K "order_by") fd_order_by P_order_by (spF K (TT K) (Wdk dkk (tbs K)) 2 F_order_by) := fn_at FD_order_by sc_order_by (fun cdv A outer s H E _ _ hr hg => d_order_by B K_identity K_after hr hg)
    have K_order_by : Known P w K mg base (TT K) (Wdk dkk (tbs K)) 2 "order_by" 2 F_order_by := ⟨_, _, _, GF_order_by, m_order_by, FD_order_by.kp, FD_order_by.bindsN (ps := P_order_by) fun _ _ _ _ _ _ us hl => match us, hl with | [_, _], _ => rfl⟩
    have GF_order_of : FnG P w K mg base Ev.CX0 10 (He.ga K "order_of") fd_order_of P_order_of (spF K (TT K) (Wdk dkk (tbs K)) 2 F_order_of) := fn_at FD_order_of sc_order_of (fun cdv A outer s H E _ _ hr hg => d_order_of B K_need_rule K_need_row K_order_by K_lefts_of hr hg)
    have K_order_of : Known P w K mg base (TT K) (Wdk dkk (tbs K)) 10 "order_of" 2 F_order_of := ⟨_, _, _, GF_order_of, m_order_of, FD_order_of.kp, FD_order_of.bindsN (ps := P_order_of) fun _ _ _ _ _ _ us hl => match us, hl with | [_, _], _ => rfl⟩
    have GF_heap_by : FnG P w K mg base Ev.CX0 1 (He.ga K "heap_by") fd_heap_by P_heap_by (spF K (TT K) (Wdk dkk (tbs K)) 2 F_heap_by) := fn_at FD_heap_by sc_heap_by (fun cdv A outer s H E _ _ hr hg => d_heap_by B hr hg)
    have K_heap_by : Known P w K mg base (TT K) (Wdk dkk (tbs K)) 1 "heap_by" 2 F_heap_by := ⟨_, _, _, GF_heap_by, m_heap_by, FD_heap_by.kp, FD_heap_by.bindsN (ps := P_heap_by) fun _ _ _ _ _ _ us hl => match us, hl with | [_, _], _ => rfl⟩
    have GF_heap_of : FnG P w K mg base Ev.CX0 11 (He.ga K "heap_of") fd_heap_of P_heap_of (spF K (TT K) (Wdk dkk (tbs K)) 2 F_heap_of) := fn_at FD_heap_of sc_heap_of (fun cdv A outer s H E _ _ hr hg => d_heap_of B K_order_of K_heap_by hr hg)
    have K_heap_of : Known P w K mg base (TT K) (Wdk dkk (tbs K)) 11 "heap_of" 2 F_heap_of := ⟨_, _, _, GF_heap_of, m_heap_of, FD_heap_of.kp, FD_heap_of.bindsN (ps := P_heap_of) fun _ _ _ _ _ _ us hl => match us, hl with | [_, _], _ => rfl⟩
    have GF__law_read : FnG P w K mg base Ev.CX0 2 (He.ga K "_law_read") fd__law_read P__law_read (spF K (TT K) (Wdk dkk (tbs K)) 2 F__law_read) := fn_at FD__law_read sc__law_read (fun cdv A outer s H E _ _ hr hg => d__law_read B K__law_after hr hg)
    have K__law_read : Known P w K mg base (TT K) (Wdk dkk (tbs K)) 2 "_law_read" 2 F__law_read := ⟨_, _, _, GF__law_read, m__law_read, FD__law_read.kp, FD__law_read.bindsN (ps := P__law_read) fun _ _ _ _ _ _ us hl => match us, hl with | [_, _], _ => rfl⟩
    have GF__law_line : FnG P w K mg base Ev.CX0 1 (He.ga K "_law_line") fd__law_line P__law_line (spF K (TT K) (Wdk dkk (tbs K)) 1 F__law_line) := fn_at FD__law_line sc__law_line (fun cdv A outer s H E _ _ hr hg => d__law_line B hr hg)
    have K__law_line : Known P w K mg base (TT K) (Wdk dkk (tbs K)) 1 "_law_line" 1 F__law_line := ⟨_, _, _, GF__law_line, m__law_line, FD__law_line.kp, FD__law_line.bindsN (ps := P__law_line) fun _ _ _ _ _ _ us hl => match us, hl with | [_], _ => rfl⟩
    have GF__law_written : FnG P w K mg base Ev.CX0 2 (He.ga K "_law_written") fd__law_written P__law_written (spF K (TT K) (Wdk dkk (tbs K)) 2 F__law_written) := fn_at FD__law_written sc__law_written (fun cdv A outer s H E _ _ hr hg => d__law_written B K__law_after hr hg)
    have K__law_written : Known P w K mg base (TT K) (Wdk dkk (tbs K)) 2 "_law_written" 2 F__law_written := ⟨_, _, _, GF__law_written, m__law_written, FD__law_written.kp, FD__law_written.bindsN (ps := P__law_written) fun _ _ _ _ _ _ us hl => match us, hl with | [_, _], _ => rfl⟩
    have GF__law_is_first : FnG P w K mg base Ev.CX0 12 (He.ga K "_law_is_first") fd__law_is_first P__law_is_first (spF K (TT K) (Wdk dkk (tbs K)) 4 F__law_is_first) := fn_at FD__law_is_first sc__law_is_first (fun cdv A outer s H E _ _ hr hg => d__law_is_first B K_first_row K__law_same K__law_is_least K_heap_of K_order_of K__law_read K__law_line K__law_shuffled K__law_written KK_first_row_heap_rule hr hg)
    have K__law_is_first : Known P w K mg base (TT K) (Wdk dkk (tbs K)) 12 "_law_is_first" 4 F__law_is_first := ⟨_, _, _, GF__law_is_first, m__law_is_first, FD__law_is_first.kp, FD__law_is_first.bindsN (ps := P__law_is_first) fun _ _ _ _ _ _ us hl => match us, hl with | [_, _, _, _], _ => rfl⟩
    have GF__law_drawn : FnG P w K mg base Ev.CX0 3 (He.ga K "_law_drawn") fd__law_drawn P__law_drawn (spF K (TT K) (Wdk dkk (tbs K)) 3 F__law_drawn) := fn_at FD__law_drawn sc__law_drawn (fun cdv A outer s H E _ _ hr hg => d__law_drawn B K__law_draw K__law_read K__law_shuffled hr hg)
    have K__law_drawn : Known P w K mg base (TT K) (Wdk dkk (tbs K)) 3 "_law_drawn" 3 F__law_drawn := ⟨_, _, _, GF__law_drawn, m__law_drawn, FD__law_drawn.kp, FD__law_drawn.bindsN (ps := P__law_drawn) fun _ _ _ _ _ _ us hl => match us, hl with | [_, _, _], _ => rfl⟩
    have GF__law_orders : FnG P w K mg base Ev.CX0 1 (He.ga K "_law_orders") fd__law_orders P__law_orders (spF K (TT K) (Wdk dkk (tbs K)) 1 F__law_orders) := fn_at FD__law_orders sc__law_orders (fun cdv A outer s H E _ _ hr hg => d__law_orders B hr hg)
    have K__law_orders : Known P w K mg base (TT K) (Wdk dkk (tbs K)) 1 "_law_orders" 1 F__law_orders := ⟨_, _, _, GF__law_orders, m__law_orders, FD__law_orders.kp, FD__law_orders.bindsN (ps := P__law_orders) fun _ _ _ _ _ _ us hl => match us, hl with | [_], _ => rfl⟩
    have GF_many_of_heap : FnG P w K mg base Ev.CX0 1 (He.ga K "many_of_heap") fd_many_of_heap P_many_of_heap (spF K (TT K) (Wdk dkk (tbs K)) 1 F_many_of_heap) := fn_at FD_many_of_heap sc_many_of_heap (fun cdv A outer s H E _ _ hr hg => d_many_of_heap B hr hg)
    have K_many_of_heap : Known P w K mg base (TT K) (Wdk dkk (tbs K)) 1 "many_of_heap" 1 F_many_of_heap := ⟨_, _, _, GF_many_of_heap, m_many_of_heap, FD_many_of_heap.kp, FD_many_of_heap.bindsN (ps := P_many_of_heap) fun _ _ _ _ _ _ us hl => match us, hl with | [_], _ => rfl⟩
    have GF_heap_and_turn : FnG P w K mg base Ev.CX0 3 (He.ga K "heap_and_turn") fd_heap_and_turn P_heap_and_turn (spF K (TT K) (Wdk dkk (tbs K)) 2 F_heap_and_turn) := fn_at FD_heap_and_turn sc_heap_and_turn (fun cdv A outer s H E _ _ hr hg => d_heap_and_turn B K_order_by K_lefts_of K_heap_by hr hg)
    have K_heap_and_turn : Known P w K mg base (TT K) (Wdk dkk (tbs K)) 3 "heap_and_turn" 2 F_heap_and_turn := ⟨_, _, _, GF_heap_and_turn, m_heap_and_turn, FD_heap_and_turn.kp, FD_heap_and_turn.bindsN (ps := P_heap_and_turn) fun _ _ _ _ _ _ us hl => match us, hl with | [_, _], _ => rfl⟩
    have GF_heap_of_row : FnG P w K mg base Ev.CX0 4 (He.ga K "heap_of_row") fd_heap_of_row P_heap_of_row (spF K (TT K) (Wdk dkk (tbs K)) 2 F_heap_of_row) := fn_at FD_heap_of_row sc_heap_of_row (fun cdv A outer s H E _ _ hr hg => d_heap_of_row B K_heap_and_turn hr hg)
    have K_heap_of_row : Known P w K mg base (TT K) (Wdk dkk (tbs K)) 4 "heap_of_row" 2 F_heap_of_row := ⟨_, _, _, GF_heap_of_row, m_heap_of_row, FD_heap_of_row.kp, FD_heap_of_row.bindsN (ps := P_heap_of_row) fun _ _ _ _ _ _ us hl => match us, hl with | [_, _], _ => rfl⟩
    have GF_many_alike : FnG P w K mg base Ev.CX0 10 (He.ga K "many_alike") fd_many_alike P_many_alike (spF K (TT K) (Wdk dkk (tbs K)) 2 F_many_alike) := fn_at FD_many_alike sc_many_alike (fun cdv A outer s H E _ _ hr hg => d_many_alike B K_need_rule K_need_row K_many_of_heap K_heap_of_row hr hg)
    have K_many_alike : Known P w K mg base (TT K) (Wdk dkk (tbs K)) 10 "many_alike" 2 F_many_alike := ⟨_, _, _, GF_many_alike, m_many_alike, FD_many_alike.kp, FD_many_alike.bindsN (ps := P_many_alike) fun _ _ _ _ _ _ us hl => match us, hl with | [_, _], _ => rfl⟩
    have GF_law : FnG P w K mg base Ev.CX0 13 (He.ga K "law") fd_law P_law (spF K (TT K) (Wdk dkk (tbs K)) 1 F_law) := fn_at FD_law sc_law (fun cdv A outer s H E _ _ hr hg => d_law B K__law_deck K__law_draw K__law_lefts K__law_table K__law_is_first K__law_drawn K__law_orders K__law_written K_first_row K_many_alike K__law_same hr hg)
    exact GF_law
end K15
section
open PySem PySem.W PySem.Calls PyProof.Rows
theorem K15_ends (hrun : ∀ ns : List Int, ns.length ≤ 63 → (K15.F_law [.scr (ns.map Ev.D.int)]).run none (fun d _ => d = .bl true) Ev.noX) : PySem.Challenge.rw_threesfit_k15_first_rows_of_heaps.Holds := by
  w_on; o_law
  refine HandSHeadRun.head_imp (r := OpenLaw.row PySem.Challenge.rw_threesfit_k15_first_rows_of_heaps) (q := view (OpenLaw.row PySem.Challenge.rw_threesfit_k15_first_rows_of_heaps).prog [0, 65]) (H := K15.hk) (ob := K15.ob) (M := 14000) (loose := K15.loose) (d := HandSHeadRun.topDef (OpenLaw.row PySem.Challenge.rw_threesfit_k15_first_rows_of_heaps).prog 65) (kwd := []) K15.ob_eq
    K15.run (by kernel_rfl) (by kernel_rfl) (by kernel_rfl) (by rfl) (by first | assumption | decide +kernel) (by decide +kernel) ⟨rfl, rfl, rfl, rfl, rfl, by decide +kernel⟩ ?hw ?hc
  case hw => w_witness2
  case hc =>
    refine Ev.walkG (l := PySem.Challenge.rw_threesfit_k15_first_rows_of_heaps) (n := 63) (k := 13) (x := "script") rfl (by decide) (by kernel_rfl) ⟨rfl, by decide, by decide⟩ ?F
    intro w mg fa h Y G hmg0
    obtain ⟨K, KX, c⟩ := Y
    have hmg : mg ("law" : PySem.Str) = some (.ref fa) := by
      have e : (HandSHeadRun.topDef (OpenLaw.row PySem.Challenge.rw_threesfit_k15_first_rows_of_heaps).prog 65).name = ("law" : PySem.Str) := by kernel_rfl
      rw [← e]
      exact hmg0
    exact ⟨K, KX, K15.facts KX G hmg c hrun⟩
end
/-! from K15P0.lean -/
set_option maxRecDepth 100000
set_option maxHeartbeats 4000000
/-! Plain part 0: how computations run. -/
namespace Ev
open PySem
section
variable {S α β : Type} {s : S} {Q : α → S → Prop} {E : Xn → S → Prop}
theorem run_pure {a : α} : (M.pure a : M S α).run s Q E = Q a s := rfl
theorem run_bind {m : M S β} {f : β → M S α} : (m.bind f).run s Q E = m.run s (fun a t => (f a).run t Q E) E := rfl
theorem run_some {a : α} : (M.opt (some a) : M S α).run s Q E = Q a s := rfl
theorem run_need {p : Prop} {m : M S α} : (M.need p m).run s Q E = (p ∧ m.run s Q E) := rfl
theorem run_condT {a b : M S α} : (M.cond true a b).run s Q E = a.run s Q E := propext ⟨fun h => h.1 rfl, fun h => ⟨fun _ => h, fun e => (nomatch e)⟩⟩
theorem run_condF {a b : M S α} : (M.cond false a b).run s Q E = b.run s Q E := propext ⟨fun h => h.2 rfl, fun h => ⟨fun e => (nomatch e), fun _ => h⟩⟩
theorem run_get {Q : S → S → Prop} : (M.get : M S S).run s Q E = Q s s := rfl
theorem run_put {t : S} {Q : Unit → S → Prop} : (M.put t : M S Unit).run s Q E = Q () t := rfl
/-- a list comprehension whose turns keep the frame as it stands between them -/
theorem lc_run {body : D → List Sl → M S (Option D × List Sl)} {Γ : List Sl} {f : D → Option D} : ∀ {ds : List D} {Q : List D × List Sl → S → Prop}, (∀ d ∈ ds, ∀ Q : Option D × List Sl → S → Prop, Q (f d, Γ) s → (body d Γ).run s Q noX) → Q (ds.filterMap f, Γ) s → (lcLoop body ds Γ).run s Q noX
  | [], Q, _, q => q
  | d :: ds, Q, h, q => h d (.head _) _ (lc_run (Q := fun w t => Q ((f d).toList ++ w.1, w.2) t) (fun e m => h e (.tail _ m)) (by
      cases e : f d with
      | none => rw [List.filterMap_cons_none e] at q; exact q
      | some y => rw [List.filterMap_cons_some e] at q; exact q))
/-- .. with the frame told by what stays true of it, the state too -/
theorem all_run {body : D → List Sl → M S (Bool × List Sl)} {I : List Sl → Prop} {f : D → Bool} : ∀ {ds : List D} {Γ : List Sl} {Q : Bool × List Sl → S → Prop}, (∀ d ∈ ds, ∀ Γ, I Γ → ∀ Q : Bool × List Sl → S → Prop, (∀ Γ', I Γ' → Q (f d, Γ') s) → (body d Γ).run s Q noX) → I Γ → (∀ Γ', I Γ' → Q (ds.all f, Γ') s) → (allLoop body ds Γ).run s Q noX
  | [], Γ, Q, _, i, q => q Γ i
  | d :: ds, Γ, Q, h, i, q => h d (.head _) Γ i _ fun Γ' i' => by
    rw [List.all_cons] at q
    cases e : f d with
    | false => rw [e] at q; exact ⟨fun z => (nomatch z), fun _ => q Γ' i'⟩
    | true => rw [e] at q; exact ⟨fun _ => all_run (fun e m => h e (.tail _ m)) i' q, fun z => (nomatch z)⟩
theorem for_run {body : D → List Sl → M S Fl} {I : Nat → List Sl → S → Prop} {ds : List D} {Q : Fl → S → Prop}
    (h : ∀ (i : Nat) (d : D) (Γ : List Sl) (t : S), ds[i]? = some d → I i Γ t → (body d Γ).run t (fun f u => match f with | .nx Γ' => I (i + 1) Γ' u | .ct Γ' => I (i + 1) Γ' u | .bk Γ' => Q (.nx Γ') u | .rt v => Q (.rt v) u) noX)
    (q : ∀ Γ t, I ds.length Γ t → Q (.nx Γ) t) : ∀ (Γ : List Sl) (t : S), I 0 Γ t → (forLoop body ds Γ).run t Q noX := by
  have go : ∀ (es : List D) (i : Nat) (Γ : List Sl) (t : S), i ≤ ds.length → ds.drop i = es → I i Γ t → (forLoop body es Γ).run t Q noX := fun es => by
    induction es with
    | nil =>
      intro i Γ t hl e z
      have hi : i = ds.length := by
        have := congrArg List.length e
        rw [List.length_drop, List.length_nil] at this; omega
      subst hi; exact q Γ t z
    | cons d es ih =>
      intro i Γ t hl e z
      have hi : i + 1 ≤ ds.length := by
        have := congrArg List.length e
        rw [List.length_drop, List.length_cons] at this; omega
      have hd : ds[i]? = some d := by
        have := congrArg (fun l : List D => l[0]?) e
        simpa using this
      have he : ds.drop (i + 1) = es := by rw [← List.drop_drop, e]; rfl
      refine M.weak (m := body d Γ) (h i d Γ t hd z) fun f u w => ?_
      cases f with
      | nx Γ' => exact ih (i + 1) Γ' u hi he w
      | ct Γ' => exact ih (i + 1) Γ' u hi he w
      | bk Γ' => exact w
      | rt v => exact w
  exact fun Γ t z => go ds 0 Γ t (Nat.zero_le _) rfl z
end
end Ev
/-! from K15P1.lean -/
set_option maxRecDepth 100000
set_option maxHeartbeats 4000000
namespace K15
open PySem Ev
theorem at_nat {xs : List D} {k : Nat} {d : D} (h : xs[k]? = some d) : at? xs (k : Int) = some d := by
  have hk : k < xs.length := (List.getElem?_eq_some_iff.mp h).1
  unfold at? L2.atI L2.ixN
  rw [if_pos (by omega), if_pos (by omega)]
  simpa using h
theorem law_after (s : SD) (one : List D) (ks : List Nat) (Q : D → SD → Prop) (g : Nat → D) (hr : ∀ k ∈ ks, one[k]? = some (g k)) (hl : ks.length ≤ 1000000) (q : Q (.tup (ks.map g)) s) : (F__law_after [.tup one, .tup (ks.map fun (k : Nat) => .int k)]).run s Q noX := by
  unfold F__law_after runD b__law_after
  simp only [cCons, cRet, eBi, sCons, sNil, eLc, wIt, run_bind, run_pure, eVar, List.map_cons, List.map_nil, List.length_cons, List.length_nil, Nat.reduceAdd, Nat.reduceSub, List.replicate_succ, List.replicate_zero, List.cons_append, List.nil_append, List.getElem?_cons_succ, List.getElem?_cons_zero, frz, opd, itemsOf, run_some, run_need, clearG, wipeG, List.set_cons_succ, List.set_cons_zero, List.length_map, Bool.and_self, Bool.true_and, hl, and_self, true_and]
  refine lc_run (f := fun d => match d with | .int i => some (g i.toNat) | _ => none) (fun d hd Q2 q2 => ?_) ?_
  · obtain ⟨k, hk, rfl⟩ := List.mem_map.mp hd
    simp only [lcBody, setG, qYes, eIdx, e2, eVar, asD, use, opIdx, run_bind, run_pure, run_some, run_condT, List.set_cons_succ, List.set_cons_zero, List.getElem?_cons_succ, List.getElem?_cons_zero, valO, opd, at_nat (hr k hk), frz, wipeG]
    simpa using q2
  · have e : (ks.map fun (k : Nat) => D.int k).filterMap (fun d => match d with | .int i => some (g i.toNat) | _ => none) = ks.map g := by
      rw [List.filterMap_map]
      rw [← List.filterMap_eq_map]
      rfl
    rw [e]
    simp only [backG, valOs, valO, opd, run_some, opBi, run_pure, frz]
    exact q
end K15
/-! from K15P2.lean -/
set_option maxRecDepth 100000
set_option maxHeartbeats 4000000
namespace K15
open PySem Ev
/-- the deck's list is short -/
def DkOk (dk : DeckD) : Prop := dk.cells.length ≤ 63
theorem fmod_lt {x m : Int} (h : 1 ≤ m) : 0 ≤ x.fmod m ∧ x.fmod m < m := by
  rw [Int.fmod_eq_emod_of_nonneg _ (by omega)]
  exact ⟨Int.emod_nonneg _ (by omega), Int.emod_lt_of_pos _ (by omega)⟩
/-- the drawn number from a number on -/
theorem draw_tail (n0 : Int) (dk : DeckD) (a2 : Sl) (many : Int) (h1 : 1 ≤ many) (Q : D → SD → Prop) (q : ∀ i, 0 ≤ i → i < many → Q (.int i) (some dk)) :
    (((cCons (cSet 2 (eBin .mod (eBi .int1 (sCons (eBin .add (eBin .mul (eVar 2) (eK (.int 69621))) (eK (.int 77))) sNil)) (eK (.int 2147483647))))
 (cCons (cSet 2 (eBin .mod (eBi .int1 (sCons (eBin .add (eBin .add (eBin .mul (eVar 2) (eVar 2)) (eBin .mul (eK (.int 52709)) (eDk 0 true))) (eK (.int 41))) sNil)) (eK (.int 2147483587))))
 (cCons (cSet 2 (eBin .mod (eBi .int1 (sCons (eBin .mul (eVar 2) (eK (.int 39373))) sNil)) (eK (.int 2147483563))))
 (cCons (cRet (eBin .mod (eBi .int1 (sCons (eBin .fdiv (eVar 2) (eK (.int 64))) sNil)) (eVar 1)))
 cNil)))) : TSv SD) [.dat (.ref dk.a), .dat (.int many), .dat (.int n0), a2]).run (some dk) (fun f s => match f with | .rt d => Q d s | _ => False) noX := by
  have b1 := fmod_lt (x := n0 * 69621 + 77) (m := 2147483647) (by decide)
  simp only [cCons, cSet, cRet, eBin, e2, eBi, eDk, eK, sCons, sNil, run_bind, run_pure, run_some, run_need, run_get, eVar, use, opBin, opBi, valO, valOs, opd, fixRv, putRv, deckAt, List.set_cons_succ, List.set_cons_zero, List.getElem?_cons_succ, List.getElem?_cons_zero, if_true, frz, DeckD.get]
  have c : ∀ x : Int, 0 ≤ x ∧ x < 2147483647 → -2 ^ 64 < x ∧ x < 2 ^ 64 := fun x h => by omega
  exact ⟨.inr (by decide), by decide, .inl (c _ b1), .inl (by decide), by decide, .inr (by decide), by decide, by decide, by omega, q _ (fmod_lt h1).1 (fmod_lt h1).2⟩
theorem law_draw (dk : DeckD) (many : Int) (h1 : 1 ≤ many) (h2 : many < 1000000000) (ok : DkOk dk) (Q : D → SD → Prop) (q : ∀ (i : Int) (dk' : DeckD), 0 ≤ i → i < many → DkOk dk' → dk'.a = dk.a → dk'.l = dk.l → Q (.int i) (some dk')) :
    (F__law_draw [.ref dk.a, .int many]).run (some dk) Q noX := by
  unfold DkOk at ok
  have tail : ∀ (n0 : Int) (dk' : DeckD) (a2 : Sl), DkOk dk' → dk'.a = dk.a → dk'.l = dk.l → (((cCons (cSet 2 (eBin .mod (eBi .int1 (sCons (eBin .add (eBin .mul (eVar 2) (eK (.int 69621))) (eK (.int 77))) sNil)) (eK (.int 2147483647))))
 (cCons (cSet 2 (eBin .mod (eBi .int1 (sCons (eBin .add (eBin .add (eBin .mul (eVar 2) (eVar 2)) (eBin .mul (eK (.int 52709)) (eDk 0 true))) (eK (.int 41))) sNil)) (eK (.int 2147483587))))
 (cCons (cSet 2 (eBin .mod (eBi .int1 (sCons (eBin .mul (eVar 2) (eK (.int 39373))) sNil)) (eK (.int 2147483563))))
 (cCons (cRet (eBin .mod (eBi .int1 (sCons (eBin .fdiv (eVar 2) (eK (.int 64))) sNil)) (eVar 1)))
 cNil)))) : TSv SD) [.dat (.ref dk.a), .dat (.int many), .dat (.int n0), a2]).run (some dk') (fun f s => (match f with | .rt d => (M.pure d : M SD D) | .nx _ => .pure .non | _ => .fail).run s Q noX) noX := fun n0 dk' a2 o e1 e2 => by
    rw [← e1]
    refine M.weak (draw_tail n0 dk' a2 many h1 Q fun i i1 i2 => q i dk' i1 i2 o e1 e2) fun f s h => ?_
    cases f with
    | rt d => exact h
    | _ => exact h.elim
  unfold F__law_draw runD b__law_draw
  rw [run_bind]
  generalize hT : (cCons (cSet 2 (eBin .mod (eBi .int1 (sCons (eBin .add (eBin .mul (eVar 2) (eK (.int 69621))) (eK (.int 77))) sNil)) (eK (.int 2147483647)))) _ : TSv SD) = tl at tail ⊢
  simp only [cCons, cSet, cDk, cIf, qDk, eBin, e2, eDk, eK, run_bind, run_pure, run_some, run_need, run_get, run_put, eVar, use, isI, opBin, valO, opd, fixRv, putRv, deckAt, List.map_cons, List.map_nil, List.length_cons, List.length_nil, Nat.reduceAdd, Nat.reduceSub, List.replicate_succ, List.replicate_zero, List.cons_append, List.nil_append, List.set_cons_succ, List.set_cons_zero, List.getElem?_cons_succ, List.getElem?_cons_zero, if_true, DeckD.get, DeckD.put, Bool.false_eq_true, if_false]
  refine ⟨.inl (by decide), fun e => ?_, fun e => tail _ _ _ ok rfl rfl⟩
  obtain ⟨c, hc⟩ : ∃ c, dk.cells[dk.cells.length - 1]? = some c := by
    cases h : dk.cells[dk.cells.length - 1]? with
    | some c => exact ⟨c, rfl⟩
    | none =>
      rw [List.getElem?_eq_none_iff] at h
      have : dk.cells = [] := List.length_eq_zero_iff.mp (by omega)
      rw [this] at e; cases e
  have hd : dk.cells.dropLast.length ≤ 62 := by rw [List.length_dropLast]; omega
  simp only [cCons, cNil, cSet, cDrop, cRet, cIf, qVal, eCmp, eDkPop, eDkApp, eBin, e2, eBi, asD, eK, sCons, sNil, run_bind, run_pure, run_some, run_need, run_get, run_put, eVar, use, isI, opBin, opBi, opCmp, D.truth, valO, valOs, opd, fixRv, putRv, frz, deckAt, List.set_cons_succ, List.set_cons_zero, List.getElem?_cons_succ, List.getElem?_cons_zero, if_true, hc]
  refine ⟨by decide, fun e2 => ?_, fun e2 => ?_⟩
  · simp only [cCons, cNil, cSet, cDrop, cRet, cIf, qVal, eCmp, eDkPop, eDkApp, eBin, e2, eBi, asD, eK, sCons, sNil, run_bind, run_pure, run_some, run_need, run_get, run_put, eVar, use, isI, opBin, opBi, opCmp, D.truth, valO, valOs, opd, fixRv, putRv, frz, deckAt, List.set_cons_succ, List.set_cons_zero, List.getElem?_cons_succ, List.getElem?_cons_zero, if_true, true_and, List.length_append, List.length_cons, List.length_nil]
    refine ⟨⟨by split <;> omega, by split <;> omega⟩, by omega, by omega, q _ _ (fmod_lt h1).1 (fmod_lt h1).2 ?_ rfl rfl⟩
    show (dk.cells.dropLast ++ [_]).length ≤ 63
    rw [List.length_append, List.length_singleton]; omega
  · simp only [cCons, cNil, cSet, cDrop, cRet, cIf, qVal, eCmp, eDkPop, eDkApp, eBin, e2, eBi, asD, eK, sCons, sNil, run_bind, run_pure, run_some, run_need, run_get, run_put, eVar, use, isI, opBin, opBi, opCmp, D.truth, valO, valOs, opd, fixRv, putRv, frz, deckAt, List.set_cons_succ, List.set_cons_zero, List.getElem?_cons_succ, List.getElem?_cons_zero, if_true, true_and, List.length_append, List.length_cons, List.length_nil]
    exact ⟨by decide, tail _ _ _ (show dk.cells.dropLast.length ≤ 63 by omega) rfl rfl⟩
end K15
/-! from K15P3.lean -/
set_option maxRecDepth 100000
set_option maxHeartbeats 4000000
namespace K15
open PySem Ev
theorem cut63 (ds : List D) (h : ds.length ≤ 63) : cut ds none (some 63) = ds := by
  unfold cut HT.sIx
  simp only [List.drop_zero, Nat.sub_zero]
  rw [if_neg (by omega)]
  have : min (Int.toNat 63) ds.length = ds.length := Nat.min_eq_right h
  rw [this, List.take_length]
theorem ints_map : ∀ ns : List Int, intsOf (ns.map D.int) = some ns
  | [] => rfl
  | n :: ns => by rw [List.map_cons, intsOf, ints_map ns]; rfl
theorem law_deck (ns : List Int) (hl : ns.length ≤ 63) (Q : D → SD → Prop) (q : ∀ dk : DeckD, DkOk dk → Q (.ref dk.a) (some dk)) : (F__law_deck [.scr (ns.map D.int)]).run none Q noX := by
  unfold F__law_deck runD b__law_deck
  simp only [cCons, cSet, cFor, wIt, eSlc, oNone, oSome, eK, opSlc, isI, run_bind, run_pure, run_some, eVar, use, valO, opd, fixRv, putRv, frz, itemsOf, List.map_cons, List.map_nil, List.length_cons, List.length_nil, Nat.reduceAdd, Nat.reduceSub, List.replicate_succ, List.replicate_zero, List.cons_append, List.nil_append, List.set_cons_succ, List.set_cons_zero, List.getElem?_cons_succ, List.getElem?_cons_zero]
  rw [cut63 _ (by rw [List.length_map]; exact hl)]
  refine for_run (I := fun _ Γ t => t = none ∧ ∃ (m : Int) (x : Sl), Γ = [Sl.dat (.scr (ns.map D.int)), Sl.dat (.int m), x]) (fun i d Γ t hd hI => ?_) (fun Γ t hI => ?_) _ _ ⟨rfl, _, _, rfl⟩
  · obtain ⟨rfl, m, x, rfl⟩ := hI
    obtain ⟨n, _, rfl⟩ := List.mem_map.mp (List.mem_of_getElem? hd)
    simp only [setG, cNil, eBin, e2, eBi, sCons, sNil, eK, eVar, use, opBin, opBi, valO, valOs, opd, run_bind, run_pure, run_some, run_need, List.set_cons_succ, List.set_cons_zero, List.getElem?_cons_succ, List.getElem?_cons_zero]
    exact ⟨.inr (by decide), by decide, by decide, trivial, _, _, rfl⟩
  · obtain ⟨rfl, m, x, rfl⟩ := hI
    simp only [cRet, cNil, eDkNew, eRevS, eBi, opRevS, opBi, sCons, sNil, eSlc, oNone, oSome, opSlc, isI, eK, eVar, use, valO, valOs, opd, run_bind, run_pure, run_some, run_need, run_get, run_put, isNo, List.set_cons_succ, List.set_cons_zero, List.getElem?_cons_succ, List.getElem?_cons_zero, cut63 _ (show (ns.map D.int).length ≤ 63 by rw [List.length_map]; exact hl), ← List.map_reverse, ints_map]
    refine ⟨by rw [List.length_reverse]; omega, fun al _ => ?_⟩
    exact q ⟨al.1, al.2, ns.reverse, m, 0⟩ (by unfold DkOk; rw [List.length_reverse]; exact hl)
end K15
/-! from K15P4.lean -/
set_option maxRecDepth 100000
set_option maxHeartbeats 4000000
namespace K15
open PySem Ev
abbrev iD (k : Nat) : D := .int (k : Int)
theorem rngL_nat (n : Nat) : rngL 0 (n : Int) = (List.range n).map iD := by
  unfold rngL
  rw [Int.sub_zero, Int.toNat_natCast]
  refine List.map_congr_left fun k _ => ?_
  show D.int (0 + (k : Int)) = D.int k
  rw [Int.zero_add]
theorem erase_perm {α : Type} : ∀ (L : List α) (j : Nat) (h : j < L.length), (L[j] :: L.eraseIdx j).Perm L
  | a :: L, 0, _ => .refl _
  | a :: L, j + 1, h => (List.Perm.swap a _ _).trans (.cons a (erase_perm L j (Nat.lt_of_succ_lt_succ h)))
theorem erase_map {α β : Type} (f : α → β) : ∀ (L : List α) (j : Nat), (L.map f).eraseIdx j = (L.eraseIdx j).map f
  | [], _ => rfl
  | _ :: _, 0 => rfl
  | a :: L, j + 1 => congrArg (f a :: ·) (erase_map f L j)
theorem law_shuffled (dk : DeckD) (n : Nat) (hn : n ≤ 1000) (ok : DkOk dk) (Q : D → SD → Prop) (q : ∀ (p : List Nat) (dk' : DeckD), p.Perm (List.range n) → DkOk dk' → dk'.a = dk.a → Q (.tup (p.map iD)) (some dk')) :
    (F__law_shuffled [.ref dk.a, .int n]).run (some dk) Q noX := by
  unfold F__law_shuffled runD b__law_shuffled
  simp only [cCons, cNil, cPar, cFor, wR1, wIt, eBi, eLst, sCons, sNil, opBi, isI, run_bind, run_pure, run_some, run_need, eVar, use, valO, valOs, opd, fixRv, putRv, frz, frzs, itemsOf, List.map_cons, List.map_nil, List.length_cons, List.length_nil, Nat.reduceAdd, Nat.reduceSub, List.replicate_succ, List.replicate_zero, List.cons_append, List.nil_append, List.set_cons_succ, List.set_cons_zero, List.getElem?_cons_succ, List.getElem?_cons_zero, rngL_nat]
  refine ⟨by omega, by omega, by omega, by omega, for_run (I := fun i Γ t => ∃ (dk' : DeckD) (F L : List Nat) (x : Sl), t = some dk' ∧ DkOk dk' ∧ dk'.a = dk.a ∧ F.length = i ∧ (F ++ L).Perm (List.range n) ∧ Γ = [Sl.dat (.ref dk.a), Sl.dat (.int n), Sl.own (.lst (L.map iD)), Sl.own (.lst (F.map iD)), x]) (fun i d Γ t hd hI => ?_) (fun Γ t hI => ?_) _ _ ⟨dk, [], List.range n, _, rfl, ok, rfl, rfl, .refl _, rfl⟩⟩
  · obtain ⟨dk', F, L, x, rfl, ok', ea, hF, hp, rfl⟩ := hI
    have hi : i < n := by
      have := (List.getElem?_eq_some_iff.mp hd).1
      simpa using this
    have hlen : F.length + L.length = n := by
      have := hp.length_eq
      simpa using this
    simp only [setG, cDrop, eApp, ePopAt, eCall, ownL, eBi, sCons, sNil, eVar, use, opBi, valO, valOs, opd, isI, frzs, frz, run_bind, run_pure, run_some, run_need, List.set_cons_succ, List.set_cons_zero, List.getElem?_cons_succ, List.getElem?_cons_zero, List.length_map]
    refine ⟨by omega, ?_⟩
    rw [← ea]
    refine law_draw dk' _ (by omega) (by omega) ok' _ fun j dk2 j1 j2 ok2 e2 _ => ?_
    obtain ⟨j, rfl⟩ := Int.eq_ofNat_of_zero_le j1
    have hj : j < L.length := by omega
    have hg : (L.map iD)[j]? = some (iD L[j]) := by rw [List.getElem?_map, List.getElem?_eq_getElem hj]; rfl
    simp only [Int.toNat_natCast, hg, run_bind, run_pure, run_some, run_need, use, valO, opd, isI, ownL, frz, List.set_cons_succ, List.set_cons_zero, List.getElem?_cons_succ, List.getElem?_cons_zero, List.length_map]
    refine ⟨⟨by omega, by omega⟩, by omega, dk2, F ++ [L[j]], L.eraseIdx j, .dat d, rfl, ok2, e2, by simp [hF], ?_, ?_⟩
    · refine .trans ?_ hp
      rw [List.append_assoc]
      exact List.Perm.append_left F (erase_perm L j hj)
    · simp [erase_map]
  · obtain ⟨dk', F, L, x, rfl, ok', ea, hF, hp, rfl⟩ := hI
    have hL : L = [] := by
      have := hp.length_eq
      simp at this hF
      exact List.length_eq_zero_iff.mp (by omega)
    subst hL
    rw [List.append_nil] at hp
    simp only [cRet, eBi, sCons, sNil, eVar, use, opBi, valO, valOs, opd, frz, run_bind, run_pure, run_some, List.getElem?_cons_succ, List.getElem?_cons_zero]
    exact q F dk' hp ok' ea
end K15
/-! from K15P5.lean -/
set_option maxRecDepth 100000
set_option maxHeartbeats 4000000
namespace K15
open PySem Ev
abbrev tD (t : List Nat) : D := .tup (t.map iD)
/-- one behind the other -/
def aft (one other : List Nat) : List Nat := other.map fun y => one.getD y 0
/-- n kinds, each below n -/
def Tn (n : Nat) (t : List Nat) : Prop := t.length = n ∧ ∀ y ∈ t, y < n
theorem getD_at {α : Type} {a : List α} {k : Nat} {d : α} (h : k < a.length) : a.getD k d = a[k] := by
  rw [List.getD_eq_getElem?_getD, List.getElem?_eq_getElem h]; rfl
theorem Tn.aft {n : Nat} {a b : List Nat} (ha : Tn n a) (hb : Tn n b) : Tn n (aft a b) := by
  refine ⟨by unfold K15.aft; rw [List.length_map]; exact hb.1, fun y hy => ?_⟩
  obtain ⟨z, hz, rfl⟩ := List.mem_map.mp hy
  have hz := hb.2 z hz
  have : z < a.length := ha.1 ▸ hz
  show a.getD z 0 < n
  rw [getD_at this]
  exact ha.2 _ (List.getElem_mem this)
theorem get_iD {a : List Nat} {k : Nat} (h : k < a.length) : (a.map iD)[k]? = some (iD (a.getD k 0)) := by
  rw [List.getElem?_map, List.getElem?_eq_getElem h, getD_at h]; rfl
theorem law_afterN (s : SD) (a b : List Nat) (Q : D → SD → Prop) (hb : ∀ y ∈ b, y < a.length) (hl : b.length ≤ 1000000) (q : Q (tD (aft a b)) s) : (F__law_after [tD a, tD b]).run s Q noX :=
  law_after s (a.map iD) b Q (fun y => iD (a.getD y 0)) (fun k hk => get_iD (hb k hk)) hl (by
    unfold aft tD at q
    rw [List.map_map] at q
    exact q)
theorem Tn.range (n : Nat) : Tn n (List.range n) := ⟨List.length_range, fun y hy => List.mem_range.mp hy⟩
end K15
/-! from K15P6.lean -/
set_option maxRecDepth 100000
set_option maxHeartbeats 4000000
namespace K15
open PySem Ev
/-- the turn behind a row; the order of a row -/
def rdT (L : List (List Nat)) (row : List Nat) (t : List Nat) : List Nat := row.foldl (fun t x => aft t (L.getD x [])) t
def rdO (L : List (List Nat)) : List Nat → List Nat → List Nat
  | [], _ => []
  | x :: r, t => t.getD x 0 :: rdO L r (aft t (L.getD x []))
theorem rdT_snoc (L : List (List Nat)) (r : List Nat) (x : Nat) (t : List Nat) : rdT L (r ++ [x]) t = aft (rdT L r t) (L.getD x []) := by
  unfold rdT; rw [List.foldl_append]; rfl
theorem rdO_snoc (L : List (List Nat)) (x : Nat) : ∀ (r t : List Nat), rdO L (r ++ [x]) t = rdO L r t ++ [(rdT L r t).getD x 0]
  | [], t => rfl
  | y :: r, t => congrArg (t.getD y 0 :: ·) (rdO_snoc L x r _)
def TL (n : Nat) (L : List (List Nat)) : Prop := L.length = n ∧ ∀ t ∈ L, Tn n t
theorem TL.at {n : Nat} {L : List (List Nat)} (h : TL n L) {x : Nat} (hx : x < n) : Tn n (L.getD x []) := by
  have hx : x < L.length := h.1 ▸ hx
  rw [getD_at hx]
  exact h.2 _ (List.getElem_mem hx)
theorem rdT_T {n : Nat} {L : List (List Nat)} (h : TL n L) : ∀ (r t : List Nat), (∀ x ∈ r, x < n) → Tn n t → Tn n (rdT L r t)
  | [], t, _, ht => ht
  | x :: r, t, hr, ht => rdT_T h r _ (fun y hy => hr y (.tail _ hy)) (ht.aft (h.at (hr x (.head _))))
theorem law_read (s : SD) (n : Nat) (hn : n ≤ 1000) (L : List (List Nat)) (hL : TL n L) (row : List Nat) (hr : ∀ x ∈ row, x < n) (hl : row.length ≤ 1000000) (Q : D → SD → Prop) (q : Q (.tup [tD (rdO L row (List.range n)), tD (rdT L row (List.range n))]) s) :
    (F__law_read [.lst (L.map tD), tD row]).run s Q noX := by
  unfold F__law_read runD b__law_read
  simp only [cCons, cNil, cPar, cFor, wIt, eBi, eLst, sCons, sNil, opBi, isI, run_bind, run_pure, run_some, run_need, eVar, use, valO, valOs, opd, fixRv, putRv, frz, frzs, itemsOf, List.map_cons, List.map_nil, List.length_cons, List.length_nil, Nat.reduceAdd, Nat.reduceSub, List.replicate_succ, List.replicate_zero, List.cons_append, List.nil_append, List.set_cons_succ, List.set_cons_zero, List.getElem?_cons_succ, List.getElem?_cons_zero, List.length_map, hL.1, rngL_nat]
  refine ⟨by omega, ⟨by omega, by omega⟩, ⟨by omega, by omega, by omega, by omega⟩, by omega, for_run (I := fun i Γ t => t = s ∧ ∃ x : Sl, Γ = [Sl.dat (.lst (L.map tD)), Sl.dat (tD row), Sl.dat (tD (rdT L (row.take i) (List.range n))), Sl.own (.lst ((rdO L (row.take i) (List.range n)).map iD)), x]) (fun i d Γ t hd hI => ?_) (fun Γ t hI => ?_) _ _ ⟨rfl, _, rfl⟩⟩
  · obtain ⟨rfl, x0, rfl⟩ := hI
    have hi : i < row.length := by
      have := (List.getElem?_eq_some_iff.mp hd).1
      simpa using this
    have ed : d = iD row[i] := by
      rw [List.getElem?_map, List.getElem?_eq_getElem hi] at hd
      exact (Option.some.inj hd).symm
    subst ed
    have hx : row[i] < n := hr _ (List.getElem_mem hi)
    have hT := rdT_T hL (row.take i) _ (fun y hy => hr y (List.mem_of_mem_take hy)) (Tn.range n)
    have hxl : row[i] < L.length := hL.1 ▸ hx
    have g1 := at_nat (get_iD (a := rdT L (row.take i) (List.range n)) (k := row[i]) (hT.1 ▸ hx))
    have g2 : at? (L.map tD) ((row[i] : Nat) : Int) = some (tD (L.getD row[i] [])) := at_nat (by rw [List.getElem?_map, List.getElem?_eq_getElem hxl, getD_at hxl]; rfl)
    have et : row.take (i + 1) = row.take i ++ [row[i]] := by rw [List.take_succ, List.getElem?_eq_getElem hi]; rfl
    have ho : (rdO L (row.take i) (List.range n)).length ≤ 1000000 := by
      have : ∀ (r t : List Nat), (rdO L r t).length = r.length := fun r => by
        induction r with
        | nil => intro t; rfl
        | cons y r ih => intro t; exact congrArg (· + 1) (ih _)
      rw [this, List.length_take]; omega
    simp only [tD, iD] at g1 g2
    simp only [tD, iD, setG, cDrop, cSet, eApp, eIdx, e2, eCall, asD, ownL, sCons, sNil, eVar, use, opIdx, valO, opd, fixRv, putRv, frzs, frz, g1, g2, run_bind, run_pure, run_some, run_need, List.set_cons_succ, List.set_cons_zero, List.getElem?_cons_succ, List.getElem?_cons_zero, List.length_map]
    refine ⟨ho, law_afterN _ _ _ _ (fun y hy => hT.1.symm ▸ (hL.at hx).2 y hy) (by rw [(hL.at hx).1]; omega) ⟨rfl, .dat (iD row[i]), ?_⟩⟩
    rw [et, rdT_snoc, rdO_snoc, List.map_append]
    rfl
  · obtain ⟨rfl, x0, rfl⟩ := hI
    rw [List.length_map, List.take_length]
    simp only [tD, iD, cRet, eTup, eBi, sCons, sNil, eVar, use, opBi, valO, valOs, opd, frzs, frz, run_bind, run_pure, run_some, run_need, List.getElem?_cons_succ, List.getElem?_cons_zero, List.length_cons, List.length_nil]
    exact ⟨by omega, q⟩
end K15
/-! from K15P7.lean -/
set_option maxRecDepth 100000
set_option maxHeartbeats 4000000
namespace K15
open PySem Ev
theorem after_eq : F_after = F__law_after := rfl
theorem identity_run (s : SD) (n : Nat) (hn : n ≤ 1000) (Q : D → SD → Prop) (q : Q (tD (List.range n)) s) : (F_identity [iD n]).run s Q noX := by
  unfold F_identity runD b_identity
  simp only [tD, iD, cCons, cNil, cRet, eBi, sCons, sNil, opBi, run_bind, run_pure, run_some, run_need, eVar, valO, valOs, opd, frz, List.map_cons, List.map_nil, List.length_cons, List.length_nil, Nat.reduceAdd, Nat.reduceSub, List.replicate_succ, List.replicate_zero, List.cons_append, List.nil_append, List.getElem?_cons_succ, List.getElem?_cons_zero, rngL_nat]
  exact ⟨⟨by omega, by omega⟩, ⟨by omega, by omega, by omega, by omega⟩, q⟩
end K15
/-! from K15P8.lean -/
set_option maxRecDepth 100000
set_option maxHeartbeats 4000000
namespace K15
open PySem Ev
/-- a turn's place of a kind -/
theorem place_iD (a : List Nat) (y : Nat) : place (a.map iD) (iD y) = a.findIdx? (fun z => z == y) := by
  unfold place
  rw [List.findIdx?_map]
  congr 1
  funext z
  show PyData.eqv (.int z) (.int y) = (z == y)
  have e : PyData.eqv (.int z) (.int y) = decide ((z : Int) = y) := by
    first
      | rfl
      | (unfold PyData.eqv; rfl)
  rw [e]
  by_cases h : z = y
  · subst h; simp
  · have h2 : ¬ (z : Int) = (y : Int) := by omega
    rw [decide_eq_false h2]
    exact (beq_eq_false_iff_ne.mpr h).symm
end K15
/-! from Q0.lean -/
set_option maxRecDepth 100000
set_option maxHeartbeats 4000000
/-! Rules by two functions: no program in sight. -/
namespace Fit
/-- f: the left turns, g: the right ones -/
structure Rl (n : Nat) (f g : Nat → Nat → Nat) : Prop where
  fb : ∀ x y, x < n → y < n → f x y < n
  gb : ∀ x y, x < n → y < n → g x y < n
  fi : ∀ x y, x < n → y < n → f (f x y) (g x y) = x
  gi : ∀ x y, x < n → y < n → g (f x y) (g x y) = y
  li : ∀ x y z, x < n → y < n → z < n → f x y = f x z → y = z
  ri : ∀ x y z, x < n → y < n → z < n → g x y = g z y → x = z
  br : ∀ x y z, x < n → y < n → z < n → f x (f y z) = f (f x y) (f (g x y) z)
instance (n : Nat) (f g : Nat → Nat → Nat) : Decidable ((∀ x, x < n → ∀ y, y < n → f x y < n ∧ g x y < n ∧ f (f x y) (g x y) = x ∧ g (f x y) (g x y) = y ∧ ∀ z, z < n → (f x y = f x z → y = z) ∧ (g x y = g z y → x = z) ∧ f x (f y z) = f (f x y) (f (g x y) z))) := inferInstance
theorem Rl.by_all {n : Nat} {f g : Nat → Nat → Nat} (h : ∀ x, x < n → ∀ y, y < n → f x y < n ∧ g x y < n ∧ f (f x y) (g x y) = x ∧ g (f x y) (g x y) = y ∧ ∀ z, z < n → (f x y = f x z → y = z) ∧ (g x y = g z y → x = z) ∧ f x (f y z) = f (f x y) (f (g x y) z)) : Rl n f g :=
  ⟨fun x y a b => (h x a y b).1, fun x y a b => (h x a y b).2.1, fun x y a b => (h x a y b).2.2.1, fun x y a b => (h x a y b).2.2.2.1, fun x y z a b c => ((h x a y b).2.2.2.2 z c).1, fun x y z a b c => ((h x a y b).2.2.2.2 z c).2.1, fun x y z a b c => ((h x a y b).2.2.2.2 z c).2.2⟩
section
variable {n : Nat} {f g : Nat → Nat → Nat}
theorem Rl.three (r : Rl n f g) {x y z : Nat} (hx : x < n) (hy : y < n) (hz : z < n) :
    f (f x y) (f (g x y) z) = f x (f y z) ∧ g (f x y) (f (g x y) z) = f (g x (f y z)) (g y z) ∧ g (g x y) z = g (g x (f y z)) (g y z) := by
  have ha := r.fb x y hx hy
  have hb := r.gb x y hx hy
  have hbz := r.fb _ z hb hz
  have hyz := r.fb y z hy hz
  have hw := r.gb y z hy hz
  have hu := r.gb x _ hx hyz
  have hA := r.fb x _ hx hyz
  have e1 := (r.br x y z hx hy hz).symm
  have hB := r.gb _ _ ha hbz
  have hB' := r.fb _ _ hu hw
  have e2 : g (f x y) (f (g x y) z) = f (g x (f y z)) (g y z) := by
    refine r.li (f x (f y z)) _ _ hA hB hB' ?_
    have q1 := r.fi _ _ ha hbz
    rw [e1] at q1
    have q2 := r.br x (f y z) (g y z) hx hyz hw
    rw [r.fi y z hy hz] at q2
    rw [q1, ← q2]
  refine ⟨e1, e2, ?_⟩
  have hC := r.gb _ z hb hz
  have hC' := r.gb _ _ hu hw
  refine r.li _ _ _ hB hC hC' (r.li (f x (f y z)) _ _ hA (r.fb _ _ hB hC) (r.fb _ _ hB hC') ?_)
  have q1 := r.br _ _ _ ha hbz hC
  rw [r.fi _ z hb hz, r.fi x y hx hy, e1] at q1
  rw [← q1, e2, r.fi _ _ hu hw, r.fi _ _ hx hyz]
theorem Rl.mirror (r : Rl n f g) : Rl n (fun y x => g x y) (fun y x => f x y) where
  fb := fun x y hx hy => r.gb y x hy hx
  gb := fun x y hx hy => r.fb y x hy hx
  fi := fun x y hx hy => r.gi y x hy hx
  gi := fun x y hx hy => r.fi y x hy hx
  li := fun x y z hx hy hz e => r.ri y x z hy hx hz e
  ri := fun x y z hx hy hz e => r.li y x z hy hx hz e
  br := fun x y z hx hy hz => (r.three hz hy hx).2.2
theorem Rl.rename (r : Rl n f g) {s t : Nat → Nat} (hs : ∀ x, x < n → s x < n) (ht : ∀ x, x < n → t x < n) (st : ∀ x, x < n → s (t x) = x) (ts : ∀ x, x < n → t (s x) = x) : Rl n (fun x y => s (f (t x) (t y))) (fun x y => s (g (t x) (t y))) where
  fb := fun x y hx hy => hs _ (r.fb _ _ (ht _ hx) (ht _ hy))
  gb := fun x y hx hy => hs _ (r.gb _ _ (ht _ hx) (ht _ hy))
  fi := fun x y hx hy => by
    show s (f (t (s _)) (t (s _))) = x
    rw [ts _ (r.fb _ _ (ht _ hx) (ht _ hy)), ts _ (r.gb _ _ (ht _ hx) (ht _ hy)), r.fi _ _ (ht _ hx) (ht _ hy), st x hx]
  gi := fun x y hx hy => by
    show s (g (t (s _)) (t (s _))) = y
    rw [ts _ (r.fb _ _ (ht _ hx) (ht _ hy)), ts _ (r.gb _ _ (ht _ hx) (ht _ hy)), r.gi _ _ (ht _ hx) (ht _ hy), st y hy]
  li := fun x y z hx hy hz e => by
    have e := congrArg t e
    rw [ts _ (r.fb _ _ (ht _ hx) (ht _ hy)), ts _ (r.fb _ _ (ht _ hx) (ht _ hz))] at e
    have e := congrArg s (r.li _ _ _ (ht _ hx) (ht _ hy) (ht _ hz) e)
    rwa [st _ hy, st _ hz] at e
  ri := fun x y z hx hy hz e => by
    have e := congrArg t e
    rw [ts _ (r.gb _ _ (ht _ hx) (ht _ hy)), ts _ (r.gb _ _ (ht _ hz) (ht _ hy))] at e
    have e := congrArg s (r.ri _ _ _ (ht _ hx) (ht _ hy) (ht _ hz) e)
    rwa [st _ hx, st _ hz] at e
  br := fun x y z hx hy hz => by
    show s (f (t x) (t (s _))) = s (f (t (s _)) (t (s (f (t (s _)) (t z)))))
    rw [ts _ (r.fb _ _ (ht _ hy) (ht _ hz)), ts _ (r.fb _ _ (ht _ hx) (ht _ hy)), ts _ (r.gb _ _ (ht _ hx) (ht _ hy)), ts _ (r.fb _ _ (r.gb _ _ (ht _ hx) (ht _ hy)) (ht _ hz)), r.br _ _ _ (ht _ hx) (ht _ hy) (ht _ hz)]
theorem Rl.alike {p q : Nat → Nat} (hp : ∀ x, x < n → p x < n) (hq : ∀ x, x < n → q x < n) (pq : ∀ x, x < n → p (q x) = x) (qp : ∀ x, x < n → q (p x) = x) : Rl n (fun _ y => p y) (fun x _ => q x) where
  fb := fun x y _ hy => hp y hy
  gb := fun x y hx _ => hq x hx
  fi := fun x y hx _ => pq x hx
  gi := fun x y _ hy => qp y hy
  li := fun x y z _ hy hz e => by
    have e := congrArg q e
    rwa [qp _ hy, qp _ hz] at e
  ri := fun x y z hx _ hz e => by
    have e := congrArg p e
    rwa [pq _ hx, pq _ hz] at e
  br := fun _ _ _ _ _ _ => rfl
/-- lots that are turned on: a: the turns by lots, lot of a thing stays -/
theorem Rl.lots {lot : Nat → Nat} {a b : Nat → Nat → Nat → Nat} (ha : ∀ i j x, x < n → a i j x < n) (hb : ∀ i j x, x < n → b i j x < n) (ab : ∀ i j x, x < n → a i j (b i j x) = x) (ba : ∀ i j x, x < n → b i j (a i j x) = x)
    (la : ∀ i j x, x < n → lot (a i j x) = lot x) (lb : ∀ i j x, x < n → lot (b i j x) = lot x) (comm : ∀ i j k x, x < n → a i k (a j k x) = a j k (a i k x)) :
    Rl n (fun x y => a (lot x) (lot y) y) (fun x y => b (lot y) (lot x) x) where
  fb := fun x y hx hy => ha _ _ _ hy
  gb := fun x y hx hy => hb _ _ _ hx
  fi := fun x y hx hy => by
    show a (lot (a _ _ y)) (lot (b _ _ x)) (b _ _ x) = x
    rw [la _ _ _ hy, lb _ _ _ hx, ab _ _ _ hx]
  gi := fun x y hx hy => by
    show b (lot (b _ _ x)) (lot (a _ _ y)) (a _ _ y) = y
    rw [la _ _ _ hy, lb _ _ _ hx, ba _ _ _ hy]
  li := fun x y z hx hy hz e => by
    have e1 := congrArg lot e
    rw [la _ _ _ hy, la _ _ _ hz] at e1
    have e : a (lot x) (lot y) y = a (lot x) (lot z) z := e
    rw [e1] at e
    have e := congrArg (b (lot x) (lot z)) e
    rwa [ba _ _ _ hy, ba _ _ _ hz] at e
  ri := fun x y z hx hy hz e => by
    have e1 := congrArg lot e
    rw [lb _ _ _ hx, lb _ _ _ hz] at e1
    have e : b (lot y) (lot x) x = b (lot y) (lot z) z := e
    rw [e1] at e
    have e := congrArg (a (lot y) (lot z)) e
    rwa [ab _ _ _ hx, ab _ _ _ hz] at e
  br := fun x y z hx hy hz => by
    show a (lot x) (lot (a _ _ z)) (a _ _ z) = a (lot (a _ _ y)) (lot (a _ _ z)) (a _ (lot z) z)
    rw [la _ _ _ hz, la _ _ _ hz, la _ _ _ hy, lb _ _ _ hx, comm _ _ _ _ hz]
end
section
variable {m k : Nat} {f1 g1 f2 g2 : Nat → Nat → Nat} {p p' q q' : Nat → Nat}
/-- a permutation of the kinds below m, with its undoing, that keeps f1 -/
structure Kp (m : Nat) (f1 : Nat → Nat → Nat) (p p' : Nat → Nat) : Prop where
  b : ∀ x, x < m → p x < m
  b' : ∀ x, x < m → p' x < m
  to : ∀ x, x < m → p (p' x) = x
  fro : ∀ x, x < m → p' (p x) = x
  keep : ∀ x y, x < m → y < m → p (f1 x y) = f1 (p x) (p y)
def xF (m : Nat) (f1 f2 : Nat → Nat → Nat) (p q : Nat → Nat) (x y : Nat) : Nat := if x < m then (if y < m then f1 x y else m + q (y - m)) else if y < m then p y else m + f2 (x - m) (y - m)
def xG (m : Nat) (g1 g2 : Nat → Nat → Nat) (p' q' : Nat → Nat) (x y : Nat) : Nat := if x < m then (if y < m then g1 x y else p' x) else if y < m then m + q' (x - m) else m + g2 (x - m) (y - m)
theorem Kp.inj {m : Nat} {f1 : Nat → Nat → Nat} {p p' : Nat → Nat} (h : Kp m f1 p p') {x y : Nat} (hx : x < m) (hy : y < m) (e : p x = p y) : x = y := by
  have e := congrArg p' e
  rwa [h.fro x hx, h.fro y hy] at e
theorem Kp.inj' {m : Nat} {f1 : Nat → Nat → Nat} {p p' : Nat → Nat} (h : Kp m f1 p p') {x y : Nat} (hx : x < m) (hy : y < m) (e : p' x = p' y) : x = y := by
  have e := congrArg p e
  rwa [h.to x hx, h.to y hy] at e
theorem xF1 {x y : Nat} (hx : x < m) (hy : y < m) : xF m f1 f2 p q x y = f1 x y := by unfold xF; rw [if_pos hx, if_pos hy]
theorem xF2 {x y : Nat} (hx : x < m) : xF m f1 f2 p q x (m + y) = m + q y := by unfold xF; rw [if_pos hx, if_neg (by omega), Nat.add_sub_cancel_left]
theorem xF3 {x y : Nat} (hy : y < m) : xF m f1 f2 p q (m + x) y = p y := by unfold xF; rw [if_neg (by omega), if_pos hy]
theorem xF4 {x y : Nat} : xF m f1 f2 p q (m + x) (m + y) = m + f2 x y := by unfold xF; rw [if_neg (by omega), if_neg (by omega), Nat.add_sub_cancel_left, Nat.add_sub_cancel_left]
theorem xG1 {x y : Nat} (hx : x < m) (hy : y < m) : xG m g1 g2 p' q' x y = g1 x y := by unfold xG; rw [if_pos hx, if_pos hy]
theorem xG2 {x y : Nat} (hx : x < m) : xG m g1 g2 p' q' x (m + y) = p' x := by unfold xG; rw [if_pos hx, if_neg (by omega)]
theorem xG3 {x y : Nat} (hy : y < m) : xG m g1 g2 p' q' (m + x) y = m + q' x := by unfold xG; rw [if_neg (by omega), if_pos hy, Nat.add_sub_cancel_left]
theorem xG4 {x y : Nat} : xG m g1 g2 p' q' (m + x) (m + y) = m + g2 x y := by unfold xG; rw [if_neg (by omega), if_neg (by omega), Nat.add_sub_cancel_left, Nat.add_sub_cancel_left]
theorem two {P : Nat → Prop} (h1 : ∀ x, x < m → P x) (h2 : ∀ x, x < k → P (m + x)) (x : Nat) (hx : x < m + k) : P x := by
  by_cases h : x < m
  · exact h1 x h
  · have e : x = m + (x - m) := by omega
    rw [e]; exact h2 _ (by omega)
theorem two2 {P : Nat → Nat → Prop} (h11 : ∀ x y, x < m → y < m → P x y) (h12 : ∀ x y, x < m → y < k → P x (m + y)) (h21 : ∀ x y, x < k → y < m → P (m + x) y) (h22 : ∀ x y, x < k → y < k → P (m + x) (m + y)) (x y : Nat) (hx : x < m + k) (hy : y < m + k) : P x y :=
  two (P := fun x => P x y) (fun x hx => two (P := fun y => P x y) (fun y hy => h11 x y hx hy) (fun y hy => h12 x y hx hy) y hy) (fun x hx => two (P := fun y => P (m + x) y) (fun y hy => h21 x y hx hy) (fun y hy => h22 x y hx hy) y hy) x hx
theorem Rl.cross (r1 : Rl m f1 g1) (r2 : Rl k f2 g2) (h1 : Kp m f1 p p') (h2 : Kp k f2 q q') : Rl (m + k) (xF m f1 f2 p q) (xG m g1 g2 p' q') where
  fb := two2 (fun x y hx hy => by rw [xF1 hx hy]; have := r1.fb x y hx hy; omega) (fun x y hx hy => by rw [xF2 hx]; have := h2.b y hy; omega) (fun x y hx hy => by rw [xF3 hy]; have := h1.b y hy; omega) (fun x y hx hy => by rw [xF4]; have := r2.fb x y hx hy; omega)
  gb := two2 (fun x y hx hy => by rw [xG1 hx hy]; have := r1.gb x y hx hy; omega) (fun x y hx hy => by rw [xG2 hx]; have := h1.b' x hx; omega) (fun x y hx hy => by rw [xG3 hy]; have := h2.b' x hx; omega) (fun x y hx hy => by rw [xG4]; have := r2.gb x y hx hy; omega)
  fi := two2 (fun x y hx hy => by rw [xF1 hx hy, xG1 hx hy, xF1 (r1.fb _ _ hx hy) (r1.gb _ _ hx hy), r1.fi x y hx hy]) (fun x y hx hy => by rw [xF2 hx, xG2 hx, xF3 (h1.b' x hx), h1.to x hx]) (fun x y hx hy => by rw [xF3 hy, xG3 hy, xF2 (h1.b y hy), h2.to x hx]) (fun x y hx hy => by rw [xF4, xG4, xF4, r2.fi x y hx hy])
  gi := two2 (fun x y hx hy => by rw [xF1 hx hy, xG1 hx hy, xG1 (r1.fb _ _ hx hy) (r1.gb _ _ hx hy), r1.gi x y hx hy]) (fun x y hx hy => by rw [xF2 hx, xG2 hx, xG3 (h1.b' x hx), h2.fro y hy]) (fun x y hx hy => by rw [xF3 hy, xG3 hy, xG2 (h1.b y hy), h1.fro y hy]) (fun x y hx hy => by rw [xF4, xG4, xG4, r2.gi x y hx hy])
  li := fun x y z hx hy hz => by
    refine two (P := fun x => xF m f1 f2 p q x y = xF m f1 f2 p q x z → y = z) (fun x hx => ?_) (fun x hx => ?_) x hx
    · refine two2 (P := fun y z => xF m f1 f2 p q x y = xF m f1 f2 p q x z → y = z) (fun y z hy hz e => ?_) (fun y z hy hz e => ?_) (fun y z hy hz e => ?_) (fun y z hy hz e => ?_) y z hy hz
      · rw [xF1 hx hy, xF1 hx hz] at e; exact r1.li x y z hx hy hz e
      · rw [xF1 hx hy, xF2 hx] at e; have := r1.fb x y hx hy; omega
      · rw [xF2 hx, xF1 hx hz] at e; have := r1.fb x z hx hz; omega
      · rw [xF2 hx, xF2 hx] at e; rw [h2.inj hy hz (Nat.add_left_cancel e)]
    · refine two2 (P := fun y z => xF m f1 f2 p q (m + x) y = xF m f1 f2 p q (m + x) z → y = z) (fun y z hy hz e => ?_) (fun y z hy hz e => ?_) (fun y z hy hz e => ?_) (fun y z hy hz e => ?_) y z hy hz
      · rw [xF3 hy, xF3 hz] at e; exact h1.inj hy hz e
      · rw [xF3 hy, xF4] at e; have := h1.b y hy; omega
      · rw [xF4, xF3 hz] at e; have := h1.b z hz; omega
      · rw [xF4, xF4] at e; rw [r2.li x y z hx hy hz (Nat.add_left_cancel e)]
  ri := fun x y z hx hy hz => by
    refine two (P := fun y => xG m g1 g2 p' q' x y = xG m g1 g2 p' q' z y → x = z) (fun y hy => ?_) (fun y hy => ?_) y hy
    · refine two2 (P := fun x z => xG m g1 g2 p' q' x y = xG m g1 g2 p' q' z y → x = z) (fun x z hx hz e => ?_) (fun x z hx hz e => ?_) (fun x z hx hz e => ?_) (fun x z hx hz e => ?_) x z hx hz
      · rw [xG1 hx hy, xG1 hz hy] at e; exact r1.ri x y z hx hy hz e
      · rw [xG1 hx hy, xG3 hy] at e; have := r1.gb x y hx hy; omega
      · rw [xG3 hy, xG1 hz hy] at e; have := r1.gb z y hz hy; omega
      · rw [xG3 hy, xG3 hy] at e; rw [h2.inj' hx hz (Nat.add_left_cancel e)]
    · refine two2 (P := fun x z => xG m g1 g2 p' q' x (m + y) = xG m g1 g2 p' q' z (m + y) → x = z) (fun x z hx hz e => ?_) (fun x z hx hz e => ?_) (fun x z hx hz e => ?_) (fun x z hx hz e => ?_) x z hx hz
      · rw [xG2 hx, xG2 hz] at e; exact h1.inj' hx hz e
      · rw [xG2 hx, xG4] at e; have := h1.b' x hx; omega
      · rw [xG4, xG2 hz] at e; have := h1.b' z hz; omega
      · rw [xG4, xG4] at e; rw [r2.ri x y z hx hy hz (Nat.add_left_cancel e)]
  br := fun x y z hx hy hz => by
    refine two2 (P := fun x y => xF m f1 f2 p q x (xF m f1 f2 p q y z) = xF m f1 f2 p q (xF m f1 f2 p q x y) (xF m f1 f2 p q (xG m g1 g2 p' q' x y) z)) (fun x y hx hy => ?_) (fun x y hx hy => ?_) (fun x y hx hy => ?_) (fun x y hx hy => ?_) x y hx hy
    · rw [xF1 hx hy, xG1 hx hy]
      have a := r1.fb x y hx hy
      have b := r1.gb x y hx hy
      refine two (P := fun z => xF m f1 f2 p q x (xF m f1 f2 p q y z) = xF m f1 f2 p q (f1 x y) (xF m f1 f2 p q (g1 x y) z)) (fun z hz => ?_) (fun z hz => ?_) z hz
      · rw [xF1 hy hz, xF1 hx (r1.fb _ _ hy hz), xF1 b hz, xF1 a (r1.fb _ _ b hz), r1.br x y z hx hy hz]
      · rw [xF2 hy, xF2 hx, xF2 b, xF2 a]
    · rw [xF2 hx, xG2 hx]
      have b := h1.b' x hx
      refine two (P := fun z => xF m f1 f2 p q x (xF m f1 f2 p q (m + y) z) = xF m f1 f2 p q (m + q y) (xF m f1 f2 p q (p' x) z)) (fun z hz => ?_) (fun z hz => ?_) z hz
      · rw [xF3 hz, xF1 hx (h1.b z hz), xF1 b hz, xF3 (r1.fb _ _ b hz), h1.keep _ _ b hz, h1.to x hx]
      · rw [xF4, xF2 hx, xF2 b, xF4, h2.keep _ _ hy hz]
    · rw [xF3 hy, xG3 hy]
      have b := h2.b' x hx
      have a := h1.b y hy
      refine two (P := fun z => xF m f1 f2 p q (m + x) (xF m f1 f2 p q y z) = xF m f1 f2 p q (p y) (xF m f1 f2 p q (m + q' x) z)) (fun z hz => ?_) (fun z hz => ?_) z hz
      · rw [xF1 hy hz, xF3 (r1.fb _ _ hy hz), xF3 hz, xF1 a (h1.b z hz), h1.keep _ _ hy hz]
      · rw [xF2 hy, xF4, xF4, xF2 a, h2.keep _ _ b hz, h2.to x hx]
    · rw [xF4, xG4]
      refine two (P := fun z => xF m f1 f2 p q (m + x) (xF m f1 f2 p q (m + y) z) = xF m f1 f2 p q (m + f2 x y) (xF m f1 f2 p q (m + g2 x y) z)) (fun z hz => ?_) (fun z hz => ?_) z hz
      · rw [xF3 hz, xF3 (h1.b z hz), xF3 hz, xF3 (h1.b z hz)]
      · rw [xF4, xF4, xF4, xF4, r2.br x y z hx hy hz]
end
end Fit
/-! from Q1.lean -/
set_option maxRecDepth 100000
set_option maxHeartbeats 4000000
/-! Rules as lists: no program in sight. -/
namespace Fit
def mat (n : Nat) (f : Nat → Nat → Nat) : List (List Nat) := (List.range n).map fun x => (List.range n).map (f x)
theorem fn_at {n : Nat} {α : Type} (g : Nat → α) {y : Nat} (h : y < n) : ((List.range n).map g)[y]? = some (g y) := by
  rw [List.getElem?_map, List.getElem?_range h]; rfl
theorem fn_getD {n : Nat} {α : Type} (g : Nat → α) (d : α) {y : Nat} (h : y < n) : ((List.range n).map g).getD y d = g y := by
  rw [List.getD_eq_getElem?_getD, fn_at g h]; rfl
theorem mat_at {n : Nat} {f : Nat → Nat → Nat} {x : Nat} (h : x < n) : (mat n f)[x]? = some ((List.range n).map (f x)) := fn_at (fun x => (List.range n).map (f x)) h
theorem mat_getD {n : Nat} {f : Nat → Nat → Nat} {x : Nat} (h : x < n) : (mat n f).getD x [] = (List.range n).map (f x) := fn_getD (fun x => (List.range n).map (f x)) [] h
theorem mat_length {n : Nat} {f : Nat → Nat → Nat} : (mat n f).length = n := by unfold mat; simp
theorem fn_ext {n : Nat} {α : Type} {g h : Nat → α} (e : ∀ y, y < n → g y = h y) : (List.range n).map g = (List.range n).map h :=
  List.map_congr_left fun y hy => e y (List.mem_range.mp hy)
theorem mat_ext {n : Nat} {f g : Nat → Nat → Nat} (e : ∀ x y, x < n → y < n → f x y = g x y) : mat n f = mat n g := fn_ext fun x hx => fn_ext fun y hy => e x y hx hy
/-- the place of v in the values of g -/
theorem fn_idx {n : Nat} {g : Nat → Nat} {j v : Nat} (hj : j < n) (e : g j = v) (inj : ∀ a b, a < n → b < n → g a = g b → a = b) : ((List.range n).map g).findIdx? (fun z => z == v) = some j := by
  rw [List.findIdx?_eq_some_iff_getElem]
  refine ⟨by simpa using hj, by simpa using e, fun i hi => ?_⟩
  have hin : i < n := by omega
  simp only [List.getElem_map, List.getElem_range, Bool.not_eq_true, beq_eq_false_iff_ne]
  intro z
  have := inj i j hin hj (z.trans e.symm)
  omega
structure Pm (n : Nat) (p : List Nat) : Prop where
  perm : p.Perm (List.range n)
section
variable {n : Nat} {p : List Nat}
theorem Pm.len (h : Pm n p) : p.length = n := by have := h.perm.length_eq; simpa using this
theorem Pm.lt (h : Pm n p) {y : Nat} (m : y ∈ p) : y < n := List.mem_range.mp (h.perm.mem_iff.mp m)
theorem Pm.mem (h : Pm n p) {y : Nat} (l : y < n) : y ∈ p := h.perm.mem_iff.mpr (List.mem_range.mpr l)
theorem Pm.nodup (h : Pm n p) : p.Nodup := h.perm.nodup_iff.mpr List.nodup_range
theorem getD_at' {a : List Nat} {k : Nat} (h : k < a.length) : a.getD k 0 = a[k] := by
  rw [List.getD_eq_getElem?_getD, List.getElem?_eq_getElem h]; rfl
theorem Pm.b (h : Pm n p) (x : Nat) (l : x < n) : p.getD x 0 < n := by
  have : x < p.length := h.len.symm ▸ l
  rw [getD_at' this]; exact h.lt (List.getElem_mem this)
theorem Pm.b' (h : Pm n p) (x : Nat) (l : x < n) : p.idxOf x < n := by
  have := List.idxOf_lt_length_iff.mpr (h.mem l)
  rwa [h.len] at this
theorem Pm.to (h : Pm n p) (x : Nat) (l : x < n) : p.getD (p.idxOf x) 0 = x := by
  have := List.idxOf_lt_length_iff.mpr (h.mem l)
  rw [getD_at' this]; exact List.getElem_idxOf this
theorem Pm.fro (h : Pm n p) (x : Nat) (l : x < n) : p.idxOf (p.getD x 0) = x := by
  have hl : x < p.length := h.len.symm ▸ l
  rw [getD_at' hl]; exact h.nodup.idxOf_getElem x hl
theorem Pm.eq (h : Pm n p) : p = (List.range n).map fun y => p.getD y 0 := by
  refine List.ext_getElem (by simp [h.len]) fun i h1 h2 => ?_
  rw [List.getElem_map, List.getElem_range, getD_at' h1]
theorem Pm.inj (h : Pm n p) {x y : Nat} (hx : x < n) (hy : y < n) (e : p.getD x 0 = p.getD y 0) : x = y := by
  have e := congrArg p.idxOf e
  rwa [h.fro x hx, h.fro y hy] at e
theorem Pm.idx (h : Pm n p) {x : Nat} (l : x < n) : p.findIdx? (fun z => z == x) = some (p.idxOf x) := by
  have q := fn_idx (g := fun y => p.getD y 0) (h.b' x l) (h.to x l) (fun a b ha hb e => h.inj ha hb e)
  rwa [← h.eq] at q
theorem Pm.range (n : Nat) : Pm n (List.range n) := ⟨.refl _⟩
theorem nd_perm : ∀ (l r : List Nat), l.Nodup → (∀ y ∈ l, y ∈ r) → r.length ≤ l.length → l.Perm r
  | [], r, _, _, h => by
    have : r = [] := List.length_eq_zero_iff.mp (by simpa using h)
    subst this; exact .refl _
  | a :: l, r, nd, sub, h => by
    obtain ⟨na, nl⟩ := List.nodup_cons.mp nd
    have ha := sub a (.head _)
    have hl : (r.erase a).length = r.length - 1 := List.length_erase_of_mem ha
    have hr : 0 < r.length := List.length_pos_of_mem ha
    simp only [List.length_cons] at h
    exact (List.Perm.cons a (nd_perm l (r.erase a) nl (fun y hy => (List.mem_erase_of_ne (fun (e : y = a) => na (by rw [← e]; exact hy))).mpr (sub y (.tail _ hy))) (by omega))).trans (List.perm_cons_erase ha).symm
/-- values of one for one -/
theorem Pm.of_fn {g : Nat → Nat} (b : ∀ x, x < n → g x < n) (inj : ∀ x y, x < n → y < n → g x = g y → x = y) : Pm n ((List.range n).map g) := by
  refine ⟨?_⟩
  have nd : ((List.range n).map g).Nodup := by
    rw [List.nodup_iff_pairwise_ne, List.pairwise_map]
    refine List.Pairwise.imp_of_mem (fun {a c} ha hc hne e => hne (inj a c (List.mem_range.mp ha) (List.mem_range.mp hc) e)) (List.nodup_iff_pairwise_ne.mp (List.nodup_range (n := n)))
  have sub : ∀ y ∈ (List.range n).map g, y ∈ List.range n := fun y hy => by
    obtain ⟨x, hx, rfl⟩ := List.mem_map.mp hy
    exact List.mem_range.mpr (b x (List.mem_range.mp hx))
  exact nd_perm _ _ nd sub (by simp)
theorem Pm.aft {a b : List Nat} (ha : Pm n a) (hb : Pm n b) : Pm n (b.map fun y => a.getD y 0) := by
  have e : (b.map fun y => a.getD y 0) = (List.range n).map fun y => a.getD (b.getD y 0) 0 := by
    conv => lhs; rw [hb.eq]
    rw [List.map_map]; rfl
  rw [e]
  exact Pm.of_fn (fun x hx => ha.b _ (hb.b x hx)) fun x y hx hy q => hb.inj hx hy (ha.inj (hb.b x hx) (hb.b y hy) q)
end
theorem Rl.row {n : Nat} {f g : Nat → Nat → Nat} (r : Rl n f g) {x : Nat} (hx : x < n) : Pm n ((List.range n).map (f x)) := Pm.of_fn (fun y hy => r.fb x y hx hy) fun y z hy hz e => r.li x y z hx hy hz e
theorem Rl.idx {n : Nat} {f g : Nat → Nat → Nat} (r : Rl n f g) {x y : Nat} (hx : x < n) (hy : y < n) : ((List.range n).map (f (f x y))).findIdx? (fun z => z == x) = some (g x y) :=
  fn_idx (r.gb x y hx hy) (r.fi x y hx hy) fun a b ha hb e => r.li _ a b (r.fb x y hx hy) ha hb e
theorem range_add (m k : Nat) : List.range (m + k) = List.range m ++ (List.range k).map (m + ·) := List.range_add
theorem mat_cross {m k : Nat} {f1 f2 : Nat → Nat → Nat} {p q : List Nat} (hp : Pm m p) (hq : Pm k q) :
    ((mat m f1).map fun t => t ++ q.map (m + ·)) ++ ((mat k f2).map fun t => p ++ t.map (m + ·)) = mat (m + k) (xF m f1 f2 (fun y => p.getD y 0) (fun y => q.getD y 0)) := by
  unfold mat
  rw [range_add, List.map_append, List.map_map, List.map_map, List.map_map]
  congr 1
  · refine fn_ext fun x hx => ?_
    show (List.range m).map (f1 x) ++ q.map (m + ·) = _
    rw [List.map_append, List.map_map]
    congr 1
    · exact fn_ext fun y hy => (xF1 hx hy).symm
    · conv => lhs; rw [hq.eq]
      rw [List.map_map]
      exact fn_ext fun y hy => (xF2 (q := fun y => q.getD y 0) hx).symm
  · refine fn_ext fun x hx => ?_
    show p ++ ((List.range k).map (f2 x)).map (m + ·) = _
    show _ = List.map (xF m f1 f2 (fun y => p.getD y 0) (fun y => q.getD y 0) (m + x)) _
    rw [List.map_append, List.map_map, List.map_map]
    congr 1
    · conv => lhs; rw [hp.eq]
      exact fn_ext fun y hy => (xF3 (p := fun y => p.getD y 0) hy).symm
    · exact fn_ext fun y hy => xF4.symm
/-! lots that are turned on -/
section
variable (n : Nat) (l : List Nat)
def near (y : Nat) : List Nat := (List.range n).filter fun z => l.getD z 0 == l.getD y 0
def rot (s y : Nat) : Nat := (near n l y).getD (((near n l y).idxOf y + s) % (near n l y).length) 0
variable {n l}
theorem near_mem {y z : Nat} : z ∈ near n l y ↔ z < n ∧ l.getD z 0 = l.getD y 0 := by
  unfold near; rw [List.mem_filter, List.mem_range, beq_iff_eq]
theorem near_self {y : Nat} (h : y < n) : y ∈ near n l y := near_mem.mpr ⟨h, rfl⟩
theorem near_pos {y : Nat} (h : y < n) : 0 < (near n l y).length := List.length_pos_of_mem (near_self h)
theorem near_nodup {y : Nat} : (near n l y).Nodup := List.nodup_range.filter _
theorem rot_at {s y : Nat} (h : y < n) : ((near n l y).idxOf y + s) % (near n l y).length < (near n l y).length := Nat.mod_lt _ (near_pos h)
theorem rot_mem {s y : Nat} (h : y < n) : rot n l s y ∈ near n l y := by
  unfold rot
  rw [getD_at' (rot_at h)]
  exact List.getElem_mem _
theorem rot_lt {s y : Nat} (h : y < n) : rot n l s y < n := (near_mem.mp (rot_mem h)).1
theorem rot_lot {s y : Nat} (h : y < n) : l.getD (rot n l s y) 0 = l.getD y 0 := (near_mem.mp (rot_mem h)).2
theorem rot_near {s y : Nat} (h : y < n) : near n l (rot n l s y) = near n l y := by
  unfold near; rw [rot_lot h]
theorem rot_idx {s y : Nat} (h : y < n) : (near n l y).idxOf (rot n l s y) = ((near n l y).idxOf y + s) % (near n l y).length := by
  unfold rot
  rw [getD_at' (rot_at h)]
  exact near_nodup.idxOf_getElem _ _
theorem rot_rot {s t y : Nat} (h : y < n) : rot n l s (rot n l t y) = rot n l (t + s) y := by
  show (near n l (rot n l t y)).getD (((near n l (rot n l t y)).idxOf (rot n l t y) + s) % (near n l (rot n l t y)).length) 0 = _
  rw [rot_near h, rot_idx h]
  unfold rot
  rw [Nat.mod_add_mod, Nat.add_assoc]
theorem rot_id {s y : Nat} (h : y < n) (e : s % (near n l y).length = 0) : rot n l s y = y := by
  have hi : (near n l y).idxOf y < (near n l y).length := List.idxOf_lt_length_iff.mpr (near_self h)
  unfold rot
  rw [Nat.add_mod, e, Nat.add_zero, Nat.mod_mod, Nat.mod_eq_of_lt hi, getD_at' hi]
  exact List.getElem_idxOf hi
def unrot (n : Nat) (l : List Nat) (s y : Nat) : Nat := rot n l (s * ((near n l y).length - 1)) y
theorem mul_back {s m : Nat} (h : 0 < m) : (s + s * (m - 1)) % m = 0 := by
  have : s + s * (m - 1) = s * m := by
    obtain ⟨k, rfl⟩ : ∃ k, m = k + 1 := ⟨m - 1, by omega⟩
    rw [Nat.add_sub_cancel, Nat.mul_succ, Nat.add_comm]
  rw [this, Nat.mul_mod_left]
theorem rot_un {s y : Nat} (h : y < n) : rot n l s (unrot n l s y) = y := by
  unfold unrot
  rw [rot_rot h, Nat.add_comm]
  exact rot_id h (mul_back (near_pos h))
theorem un_rot {s y : Nat} (h : y < n) : unrot n l s (rot n l s y) = y := by
  unfold unrot
  rw [rot_near h, rot_rot h]
  exact rot_id h (mul_back (near_pos h))
theorem Rl.rots (st : List Nat) : Rl n (fun x y => rot n l (st.getD (3 * l.getD x 0 + l.getD y 0) 0) y) (fun x y => unrot n l (st.getD (3 * l.getD y 0 + l.getD x 0) 0) x) :=
  Rl.lots (lot := fun x => l.getD x 0) (a := fun i j y => rot n l (st.getD (3 * i + j) 0) y) (b := fun i j x => unrot n l (st.getD (3 * i + j) 0) x) (fun _ _ _ h => rot_lt h) (fun _ _ _ h => rot_lt h) (fun _ _ _ h => rot_un h) (fun _ _ _ h => un_rot h) (fun _ _ _ h => rot_lot h) (fun _ _ _ h => rot_lot h) (fun _ _ _ _ h => by
    show rot n l _ (rot n l _ _) = rot n l _ (rot n l _ _)
    rw [rot_rot h, rot_rot h, Nat.add_comm])
end
end Fit
/-! from K15P9.lean -/
set_option maxRecDepth 100000
set_option maxHeartbeats 4000000
namespace Ev
open PySem
/-- how a computation runs: a def of its own, that the kernel compares by its parts -/
def M.rn {S α : Type} (m : M S α) (s : S) (Q : α → S → Prop) (E : Xn → S → Prop) : Prop := m.run s Q E
section
variable {S : Type} {s : S} {E : Xn → S → Prop}
/-- what is behind a statement -/
def thn (b : TSv S) (Q : Fl → S → Prop) (E : Xn → S → Prop) : Fl → S → Prop
  | .nx Γ, t => (b Γ).rn t Q E
  | f, t => Q f t
/-- what is behind a def's body -/
def retQ (Q : D → S → Prop) : Fl → S → Prop
  | .rt d, t => Q d t
  | .nx _, t => Q .non t
  | _, _ => False
def forB (g : IG) (b : TSv S) (d : D) (Γ : List Sl) : M S Fl := (M.opt (setG g d Γ)).bind fun Γ2 => b Γ2
theorem run_cons {a b : TSv S} {Γ : List Sl} {Q : Fl → S → Prop} : (cCons a b Γ).rn s Q E = (a Γ).rn s (thn b Q E) E := by
  unfold cCons M.rn
  rw [run_bind]
  congr 1
  funext f t
  cases f <;> rfl
theorem thn_nx {b : TSv S} {Γ : List Sl} {Q : Fl → S → Prop} : thn b Q E (.nx Γ) s = (b Γ).rn s Q E := rfl
theorem thn_rt {b : TSv S} {d : D} {Q : Fl → S → Prop} : thn b Q E (.rt d) s = Q (.rt d) s := rfl
theorem thn_bk {b : TSv S} {Γ : List Sl} {Q : Fl → S → Prop} : thn b Q E (.bk Γ) s = Q (.bk Γ) s := rfl
theorem thn_ct {b : TSv S} {Γ : List Sl} {Q : Fl → S → Prop} : thn b Q E (.ct Γ) s = Q (.ct Γ) s := rfl
theorem retQ_rt {d : D} {Q : D → S → Prop} : retQ Q (.rt d) s = Q d s := rfl
theorem retQ_nx {Γ : List Sl} {Q : D → S → Prop} : retQ Q (.nx Γ) s = Q .non s := rfl
theorem run_runD {n : Nat} {b : TSv S} {args : List D} {Q : D → S → Prop} : (runD n b args).rn s Q E = (b (args.map Sl.dat ++ List.replicate (n - args.length) .no)).rn s (retQ Q) E := by
  unfold runD M.rn
  rw [run_bind]
  congr 1
  funext f t
  cases f <;> rfl
end
section
variable {S α β : Type} {s : S} {E : Xn → S → Prop}
theorem to_rn {m : M S α} {Q : α → S → Prop} : m.run s Q E = m.rn s Q E := propext ⟨id, id⟩
theorem rn_condT {a b : M S α} {Q : α → S → Prop} : (M.cond true a b).rn s Q E = a.rn s Q E := run_condT.trans (propext ⟨id, id⟩)
theorem rn_condF {a b : M S α} {Q : α → S → Prop} : (M.cond false a b).rn s Q E = b.rn s Q E := run_condF.trans (propext ⟨id, id⟩)
theorem rn_pure {a : α} {Q : α → S → Prop} : (M.pure a : M S α).rn s Q E = Q a s := propext ⟨id, id⟩
theorem rn_bind {m : M S β} {f : β → M S α} {Q : α → S → Prop} : (m.bind f).rn s Q E = m.rn s (fun a t => (f a).rn t Q E) E := propext ⟨id, id⟩
theorem rn_some {a : α} {Q : α → S → Prop} : (M.opt (some a) : M S α).rn s Q E = Q a s := propext ⟨id, id⟩
theorem rn_need {p : Prop} {m : M S α} {Q : α → S → Prop} : (M.need p m).rn s Q E = (p ∧ m.rn s Q E) := propext ⟨id, id⟩
theorem rn_get {Q : S → S → Prop} : (M.get : M S S).rn s Q E = Q s s := propext ⟨id, id⟩
theorem rn_put {t : S} {Q : Unit → S → Prop} : (M.put t : M S Unit).rn s Q E = Q () t := propext ⟨id, id⟩
theorem rn_use {Γ : List Sl} {r : Rv} {Q : D → S → Prop} : (use Γ r : M S D).rn s Q E = (M.opt (valO Γ (opd r)) : M S D).rn s Q E := propext ⟨id, id⟩
theorem rn_isB {b : Bool} {Q : Bool → S → Prop} : (isB (.bl b) : M S Bool).rn s Q E = Q b s := propext ⟨id, id⟩
theorem rn_isI {i : Int} {Q : Int → S → Prop} : (isI (.int i) : M S Int).rn s Q E = Q i s := propext ⟨id, id⟩
theorem rn_isL {ds : List D} {Q : List D → S → Prop} : (isL (.lst ds) : M S (List D)).rn s Q E = Q ds s := propext ⟨id, id⟩
theorem rn_isS {x : Str} {Q : Str → S → Prop} : (isS (.str x) : M S Str).rn s Q E = Q x s := propext ⟨id, id⟩
theorem rn_asD {m : M S D} {Q : Rv → S → Prop} : (asD m : M S Rv).rn s Q E = (m.bind fun d => .pure (.dat d)).rn s Q E := propext ⟨id, id⟩
theorem rn_forB {g : IG} {b : TSv S} {d : D} {Γ : List Sl} {Q : Fl → S → Prop} : (forB g b d Γ : M S Fl).rn s Q E = ((M.opt (setG g d Γ)).bind fun Γ2 => b Γ2 : M S Fl).rn s Q E := propext ⟨id, id⟩
theorem rn_lcBody {vs : List Nat} {g : IG} {t : TTv S} {e : TEv S} {d : D} {Γ : List Sl} {Q : Option D × List Sl → S → Prop} : (lcBody vs g t e d Γ : M S _).rn s Q E = ((M.opt (setG g d Γ)).bind fun Γ2 => (t Γ2).bind fun q =>
  M.cond q.1 ((e q.2).bind fun w => (M.opt (frz w.2 (opd w.1))).bind fun z => .pure (some z.1, wipeG z.2 vs)) (.pure (none, wipeG q.2 vs)) : M S _).rn s Q E := propext ⟨id, id⟩
theorem rn_allBody {g : IG} {e : TEv S} {d : D} {Γ : List Sl} {Q : Bool × List Sl → S → Prop} : (allBody g e d Γ : M S _).rn s Q E = ((M.opt (setG g d Γ)).bind fun Γ2 => (e Γ2).bind fun w => (use w.2 w.1).bind fun x => (isB x).bind fun b => .pure (b, w.2) : M S _).rn s Q E := propext ⟨id, id⟩
theorem rn_allBody2 {g : IG} {w : TIv S} {bd : D → List Sl → M S (Bool × List Sl)} {d : D} {Γ : List Sl} {Q : Bool × List Sl → S → Prop} : (allBody2 g w bd d Γ : M S _).rn s Q E = ((M.opt (setG g d Γ)).bind fun Γ2 => (w Γ2).bind fun p => .need (p.1.length ≤ 1000) (allLoop bd p.1 p.2) : M S _).rn s Q E := propext ⟨id, id⟩
theorem rn_cons {a b : TSv S} {Γ : List Sl} {Q : Fl → S → Prop} : (cCons a b Γ).rn s Q E = (a Γ).rn s (thn b Q E) E := run_cons.trans (propext ⟨id, id⟩)
theorem rn_runD {n : Nat} {b : TSv S} {args : List D} {Q : D → S → Prop} : (runD n b args).rn s Q E = (b (args.map Sl.dat ++ List.replicate (n - args.length) .no)).rn s (retQ Q) E := run_runD.trans (propext ⟨id, id⟩)
theorem rn_for {g : IG} {it : TIv S} {b : TSv S} {Γ : List Sl} {Q : Fl → S → Prop} : (cFor g it b Γ).rn s Q E = (it Γ).rn s (fun p t => (forLoop (forB g b) p.1 p.2).rn t Q E) E := propext ⟨id, id⟩
theorem rn_nil {Γ : List Sl} {Q : Fl → S → Prop} : (cNil Γ : M S Fl).rn s Q E = Q (.nx Γ) s := propext ⟨id, id⟩
theorem rn_ret {e : TEv S} {Γ : List Sl} {Q : Fl → S → Prop} : (cRet e Γ).rn s Q E = (e Γ).rn s (fun p t => (M.opt (frz p.2 (opd p.1))).rn t (fun q t => Q (.rt q.1) t) E) E := propext ⟨id, id⟩
theorem rn_if {c : TTv S} {a b : TSv S} {Γ : List Sl} {Q : Fl → S → Prop} : (cIf c a b Γ).rn s Q E = (c Γ).rn s (fun p t => (M.cond p.1 (a p.2) (b p.2)).rn t Q E) E := propext ⟨id, id⟩
theorem rn_eVar {i : Nat} {Γ : List Sl} {Q : Rv × List Sl → S → Prop} : (eVar i Γ : M S _).rn s Q E = (match Γ[i]? with
  | some (.dat d) => .pure (.dat d, Γ)
  | some (.own _) => .pure (.slot i, Γ)
  | _ => .fail : M S _).rn s Q E := propext ⟨id, id⟩
theorem rn_eK {d : D} {Γ : List Sl} {Q : Rv × List Sl → S → Prop} : (eK d Γ : M S _).rn s Q E = (.pure (.dat d, Γ) : M S _).rn s Q E := propext ⟨id, id⟩
theorem rn_e2 {f : D → D → M S Rv} {a b : TEv S} {Γ : List Sl} {Q : Rv × List Sl → S → Prop} : (e2 f a b Γ : M S _).rn s Q E = ((a Γ).bind fun p => (b p.2).bind fun q => (use q.2 p.1).bind fun x => (use q.2 q.1).bind fun y => (f x y).bind fun r => .pure (r, q.2) : M S _).rn s Q E := propext ⟨id, id⟩
theorem rn_eBin {o : Bo} {a b : TEv S} {Γ : List Sl} {Q : Rv × List Sl → S → Prop} : (eBin o a b Γ : M S _).rn s Q E = ((e2 (opBin o) a b) Γ : M S _).rn s Q E := propext ⟨id, id⟩
theorem rn_eNeg {a : TEv S} {Γ : List Sl} {Q : Rv × List Sl → S → Prop} : (eNeg a Γ : M S _).rn s Q E = ((a Γ).bind fun p => (use p.2 p.1).bind fun x => (isI x).bind fun i => .pure (.dat (.int (-i)), p.2) : M S _).rn s Q E := propext ⟨id, id⟩
theorem rn_eCmp {o : Cm} {a b : TEv S} {Γ : List Sl} {Q : Rv × List Sl → S → Prop} : (eCmp o a b Γ : M S _).rn s Q E = ((e2 (fun x y => asD (opCmp o x y)) a b) Γ : M S _).rn s Q E := propext ⟨id, id⟩
theorem rn_eChain {o u : Cm} {a b c : TEv S} {Γ : List Sl} {Q : Rv × List Sl → S → Prop} : (eChain o u a b c Γ : M S _).rn s Q E = ((a Γ).bind fun p => (b p.2).bind fun q => (use q.2 p.1).bind fun x => (use q.2 q.1).bind fun y => (opCmp o x y).bind fun r => (isB r).bind fun t =>
  M.cond t ((c q.2).bind fun w => (use w.2 q.1).bind fun y' => (use w.2 w.1).bind fun z => (opCmp u y' z).bind fun r' => .pure (.dat r', w.2)) (.pure (.dat (.bl false), q.2)) : M S _).rn s Q E := propext ⟨id, id⟩
theorem rn_eAnd {a b : TEv S} {Γ : List Sl} {Q : Rv × List Sl → S → Prop} : (eAnd a b Γ : M S _).rn s Q E = ((a Γ).bind fun p => (use p.2 p.1).bind fun x => (isB x).bind fun t => M.cond t (b p.2) (.pure (.dat (.bl false), p.2)) : M S _).rn s Q E := propext ⟨id, id⟩
theorem rn_eOr {a b : TEv S} {Γ : List Sl} {Q : Rv × List Sl → S → Prop} : (eOr a b Γ : M S _).rn s Q E = ((a Γ).bind fun p => (use p.2 p.1).bind fun x => (isB x).bind fun t => M.cond t (.pure (.dat (.bl true), p.2)) (b p.2) : M S _).rn s Q E := propext ⟨id, id⟩
theorem rn_eNot {a : TEv S} {Γ : List Sl} {Q : Rv × List Sl → S → Prop} : (eNot a Γ : M S _).rn s Q E = ((a Γ).bind fun p => (use p.2 p.1).bind fun x => (isB x).bind fun t => .pure (.dat (.bl (!t)), p.2) : M S _).rn s Q E := propext ⟨id, id⟩
theorem rn_eIf {t : TTv S} {a b : TEv S} {Γ : List Sl} {Q : Rv × List Sl → S → Prop} : (eIf t a b Γ : M S _).rn s Q E = ((t Γ).bind fun p => M.cond p.1 (a p.2) (b p.2) : M S _).rn s Q E := propext ⟨id, id⟩
theorem rn_sNil  {Γ : List Sl} {Q : List Rv × List Sl → S → Prop} : (sNil  Γ : M S _).rn s Q E = (.pure ([], Γ) : M S _).rn s Q E := propext ⟨id, id⟩
theorem rn_sCons {e : TEv S} {es : TEs S} {Γ : List Sl} {Q : List Rv × List Sl → S → Prop} : (sCons e es Γ : M S _).rn s Q E = ((e Γ).bind fun p => (es p.2).bind fun q => .pure (opd p.1 :: q.1, q.2) : M S _).rn s Q E := propext ⟨id, id⟩
theorem rn_eTup {es : TEs S} {Γ : List Sl} {Q : Rv × List Sl → S → Prop} : (eTup es Γ : M S _).rn s Q E = ((es Γ).bind fun p => (M.opt (frzs p.2 p.1)).bind fun q => .need (q.1.length ≤ 1000000) (.pure (.dat (.tup q.1), q.2)) : M S _).rn s Q E := propext ⟨id, id⟩
theorem rn_eLst {es : TEs S} {Γ : List Sl} {Q : Rv × List Sl → S → Prop} : (eLst es Γ : M S _).rn s Q E = ((es Γ).bind fun p => (M.opt (frzs p.2 p.1)).bind fun q => .need (q.1.length ≤ 1000000) (.pure (.own (.lst q.1), q.2)) : M S _).rn s Q E := propext ⟨id, id⟩
theorem rn_eIdx {a b : TEv S} {Γ : List Sl} {Q : Rv × List Sl → S → Prop} : (eIdx a b Γ : M S _).rn s Q E = ((e2 (fun x y => asD (opIdx x y)) a b) Γ : M S _).rn s Q E := propext ⟨id, id⟩
theorem rn_oNone  {Γ : List Sl} {Q : Option Int × List Sl → S → Prop} : (oNone  Γ : M S _).rn s Q E = (.pure (none, Γ) : M S _).rn s Q E := propext ⟨id, id⟩
theorem rn_oSome {e : TEv S} {Γ : List Sl} {Q : Option Int × List Sl → S → Prop} : (oSome e Γ : M S _).rn s Q E = ((e Γ).bind fun p => (use p.2 p.1).bind fun x => (isI x).bind fun i => .pure (some i, p.2) : M S _).rn s Q E := propext ⟨id, id⟩
theorem rn_eSlc {a : TEv S} {lo hi : TOv S} {Γ : List Sl} {Q : Rv × List Sl → S → Prop} : (eSlc a lo hi Γ : M S _).rn s Q E = ((a Γ).bind fun p => (lo p.2).bind fun q => (hi q.2).bind fun w => (use w.2 p.1).bind fun x => (opSlc x q.1 w.1).bind fun r => .pure (r, w.2) : M S _).rn s Q E := propext ⟨id, id⟩
theorem rn_eRev {a : TEv S} {Γ : List Sl} {Q : Rv × List Sl → S → Prop} : (eRev a Γ : M S _).rn s Q E = ((a Γ).bind fun p => (use p.2 p.1).bind fun x => (opRev x).bind fun r => .pure (r, p.2) : M S _).rn s Q E := propext ⟨id, id⟩
theorem rn_eCall {F : List D → M S D} {es : TEs S} {Γ : List Sl} {Q : Rv × List Sl → S → Prop} : (eCall F es Γ : M S _).rn s Q E = ((es Γ).bind fun p => (M.opt (frzs p.2 p.1)).bind fun q => (F q.1).bind fun d => .pure (.dat d, q.2) : M S _).rn s Q E := propext ⟨id, id⟩
theorem rn_eIsi {b : Bi} {e : TEv S} {Γ : List Sl} {Q : Rv × List Sl → S → Prop} : (eIsi b e Γ : M S _).rn s Q E = ((e Γ).bind fun p => (use p.2 p.1).bind fun x => (M.opt (x.isInst b)).bind fun t => .pure (.dat (.bl t), p.2) : M S _).rn s Q E := propext ⟨id, id⟩
theorem rn_eBi {b : Bi} {es : TEs S} {Γ : List Sl} {Q : Rv × List Sl → S → Prop} : (eBi b es Γ : M S _).rn s Q E = ((es Γ).bind fun p => (M.opt (valOs p.2 p.1)).bind fun xs => (opBi b xs).bind fun r => .pure (r, p.2) : M S _).rn s Q E := propext ⟨id, id⟩
theorem rn_eMeth {m : Mt} {o e : TEv S} {Γ : List Sl} {Q : Rv × List Sl → S → Prop} : (eMeth m o e Γ : M S _).rn s Q E = ((o Γ).bind fun p => (use p.2 p.1).bind fun x0 => .need (sameSeq x0 x0 = true) ((e p.2).bind fun q => (use q.2 p.1).bind fun x => (use q.2 q.1).bind fun y => .need (sameSeq x0 x = true) ((opMeth m x y).bind fun r => .pure (.dat r, q.2))) : M S _).rn s Q E := propext ⟨id, id⟩
theorem rn_eApp {i : Nat} {e : TEv S} {Γ : List Sl} {Q : Rv × List Sl → S → Prop} : (eApp i e Γ : M S _).rn s Q E = ((M.opt (ownL Γ i)).bind fun _ => (e Γ).bind fun p => (M.opt (frz p.2 (opd p.1))).bind fun q => (M.opt (ownL q.2 i)).bind fun ds => .need (ds.length ≤ 1000000) (.pure (.dat .non, q.2.set i (.own (.lst (ds ++ [q.1]))))) : M S _).rn s Q E := propext ⟨id, id⟩
theorem rn_ePopAt {i : Nat} {e : TEv S} {Γ : List Sl} {Q : Rv × List Sl → S → Prop} : (ePopAt i e Γ : M S _).rn s Q E = ((M.opt (ownL Γ i)).bind fun _ => (e Γ).bind fun p => (use p.2 p.1).bind fun x => (isI x).bind fun j => (M.opt (ownL p.2 i)).bind fun ds => .need (0 ≤ j ∧ j < 1000000) ((M.opt ds[j.toNat]?).bind fun d => .pure (.dat d, p.2.set i (.own (.lst (ds.eraseIdx j.toNat))))) : M S _).rn s Q E := propext ⟨id, id⟩
theorem rn_ePop {i : Nat} {Γ : List Sl} {Q : Rv × List Sl → S → Prop} : (ePop i Γ : M S _).rn s Q E = ((M.opt (ownL Γ i)).bind fun ds => (M.opt ds[ds.length - 1]?).bind fun d => .pure (.dat d, Γ.set i (.own (.lst ds.dropLast))) : M S _).rn s Q E := propext ⟨id, id⟩
theorem rn_eExt {i : Nat} {e : TEv S} {Γ : List Sl} {Q : Rv × List Sl → S → Prop} : (eExt i e Γ : M S _).rn s Q E = ((M.opt (ownL Γ i)).bind fun _ => (e Γ).bind fun p => (M.opt (frz p.2 (opd p.1))).bind fun q => (M.opt (ownL q.2 i)).bind fun ds => (isL q.1).bind fun es => .need (ds.length ≤ 1000000 ∧ es.length ≤ 1000000) (.pure (.dat .non, q.2.set i (.own (.lst (ds ++ es))))) : M S _).rn s Q E := propext ⟨id, id⟩
theorem rn_qVal {e : TEv S} {Γ : List Sl} {Q : Bool × List Sl → S → Prop} : (qVal e Γ : M S _).rn s Q E = ((e Γ).bind fun p => (use p.2 p.1).bind fun x => (M.opt x.truth).bind fun b => .pure (b, p.2) : M S _).rn s Q E := propext ⟨id, id⟩
theorem rn_qAnd {a b : TTv S} {Γ : List Sl} {Q : Bool × List Sl → S → Prop} : (qAnd a b Γ : M S _).rn s Q E = ((a Γ).bind fun p => M.cond p.1 (b p.2) (.pure (false, p.2)) : M S _).rn s Q E := propext ⟨id, id⟩
theorem rn_qOr {a b : TTv S} {Γ : List Sl} {Q : Bool × List Sl → S → Prop} : (qOr a b Γ : M S _).rn s Q E = ((a Γ).bind fun p => M.cond p.1 (.pure (true, p.2)) (b p.2) : M S _).rn s Q E := propext ⟨id, id⟩
theorem rn_qNot {a : TTv S} {Γ : List Sl} {Q : Bool × List Sl → S → Prop} : (qNot a Γ : M S _).rn s Q E = ((a Γ).bind fun p => .pure (!p.1, p.2) : M S _).rn s Q E := propext ⟨id, id⟩
theorem rn_wIt {e : TEv S} {Γ : List Sl} {Q : List D × List Sl → S → Prop} : (wIt e Γ : M S _).rn s Q E = ((e Γ).bind fun p => (M.opt (frz p.2 (opd p.1))).bind fun q => (M.opt (itemsOf q.1)).bind fun ds => .pure (ds, q.2) : M S _).rn s Q E := propext ⟨id, id⟩
theorem rn_wR1 {a : TEv S} {Γ : List Sl} {Q : List D × List Sl → S → Prop} : (wR1 a Γ : M S _).rn s Q E = ((a Γ).bind fun p => (use p.2 p.1).bind fun x => (isI x).bind fun j => .need (-1000000 ≤ j ∧ j ≤ 1000000) (.pure (rngL 0 j, p.2)) : M S _).rn s Q E := propext ⟨id, id⟩
theorem rn_wR2 {a b : TEv S} {Γ : List Sl} {Q : List D × List Sl → S → Prop} : (wR2 a b Γ : M S _).rn s Q E = ((a Γ).bind fun p => (b p.2).bind fun q => (use q.2 p.1).bind fun x => (use q.2 q.1).bind fun y => (isI x).bind fun i => (isI y).bind fun j =>
  .need (-1000000 ≤ i ∧ i ≤ 1000000 ∧ -1000000 ≤ j ∧ j ≤ 1000000) (.pure (rngL i j, q.2)) : M S _).rn s Q E := propext ⟨id, id⟩
theorem rn_cSet {i : Nat} {e : TEv S} {Γ : List Sl} {Q : Fl → S → Prop} : (cSet i e Γ : M S _).rn s Q E = ((e Γ).bind fun p => (M.opt (fixRv p.2 p.1)).bind fun q => .pure (.nx (putRv i q.1 q.2)) : M S _).rn s Q E := propext ⟨id, id⟩
theorem rn_cUnp {g : IG} {e : TEv S} {Γ : List Sl} {Q : Fl → S → Prop} : (cUnp g e Γ : M S _).rn s Q E = ((e Γ).bind fun p => (M.opt (frz p.2 (opd p.1))).bind fun q => (M.opt (setG g q.1 q.2)).bind fun Γ' => .pure (.nx Γ') : M S _).rn s Q E := propext ⟨id, id⟩
theorem rn_cPar {i j : Nat} {a b : TEv S} {Γ : List Sl} {Q : Fl → S → Prop} : (cPar i j a b Γ : M S _).rn s Q E = ((a Γ).bind fun p => (b p.2).bind fun q => (M.opt (fixRv q.2 p.1)).bind fun x => (M.opt (fixRv x.2 q.1)).bind fun y => .pure (.nx (putRv i x.1 (putRv j y.1 y.2))) : M S _).rn s Q E := propext ⟨id, id⟩
theorem rn_cPar3 {i j l : Nat} {a b c : TEv S} {Γ : List Sl} {Q : Fl → S → Prop} : (cPar3 i j l a b c Γ : M S _).rn s Q E = ((a Γ).bind fun p => (b p.2).bind fun q => (c q.2).bind fun w => (M.opt (fixRv w.2 p.1)).bind fun x => (M.opt (fixRv x.2 q.1)).bind fun y => (M.opt (fixRv y.2 w.1)).bind fun z =>
  .pure (.nx (putRv i x.1 (putRv j y.1 (putRv l z.1 z.2)))) : M S _).rn s Q E := propext ⟨id, id⟩
theorem rn_cAug {i : Nat} {o : Bo} {e : TEv S} {Γ : List Sl} {Q : Fl → S → Prop} : (cAug i o e Γ : M S _).rn s Q E = ((M.opt (intAt Γ i)).bind fun x => (e Γ).bind fun p => (use p.2 p.1).bind fun y => (isI y).bind fun y => (augOp o x y).bind fun r => .pure (.nx (p.2.set i (.dat r))) : M S _).rn s Q E := propext ⟨id, id⟩
theorem rn_cPut {i : Nat} {a e : TEv S} {Γ : List Sl} {Q : Fl → S → Prop} : (cPut i a e Γ : M S _).rn s Q E = ((e Γ).bind fun p => (M.opt (ownL p.2 i)).bind fun _ => (a p.2).bind fun w => (use w.2 w.1).bind fun x => (isI x).bind fun k => (M.opt (frz w.2 (opd p.1))).bind fun q => (M.opt (ownL q.2 i)).bind fun ds =>
  .need (0 ≤ k ∧ k < (ds.length : Int) ∧ ds.length ≤ 1000000) (.pure (.nx (q.2.set i (.own (.lst (ds.set k.toNat q.1)))))) : M S _).rn s Q E := propext ⟨id, id⟩
theorem rn_cAugAt {i : Nat} {a : TEv S} {o : Bo} {e : TEv S} {Γ : List Sl} {Q : Fl → S → Prop} : (cAugAt i a o e Γ : M S _).rn s Q E = ((M.opt (ownL Γ i)).bind fun _ => (a Γ).bind fun w => (use w.2 w.1).bind fun x => (isI x).bind fun k => (M.opt (ownL w.2 i)).bind fun ds =>
  .need (0 ≤ k ∧ k < (ds.length : Int) ∧ ds.length ≤ 1000000) ((M.opt ds[k.toNat]?).bind fun old => (isI old).bind fun old => (e w.2).bind fun p => (use p.2 p.1).bind fun y => (isI y).bind fun y =>
    (augOp o old y).bind fun r => (M.opt (ownL p.2 i)).bind fun ds' => .need (k < (ds'.length : Int)) (.pure (.nx (p.2.set i (.own (.lst (ds'.set k.toNat r))))))) : M S _).rn s Q E := propext ⟨id, id⟩
theorem rn_cDrop {e : TEv S} {Γ : List Sl} {Q : Fl → S → Prop} : (cDrop e Γ : M S _).rn s Q E = ((e Γ).bind fun p => .pure (.nx p.2) : M S _).rn s Q E := propext ⟨id, id⟩
theorem rn_cRetN  {Γ : List Sl} {Q : Fl → S → Prop} : (cRetN  Γ : M S _).rn s Q E = (.pure (.rt .non) : M S _).rn s Q E := propext ⟨id, id⟩
theorem rn_cPass  {Γ : List Sl} {Q : Fl → S → Prop} : (cPass  Γ : M S _).rn s Q E = (.pure (.nx Γ) : M S _).rn s Q E := propext ⟨id, id⟩
theorem rn_cBrk  {Γ : List Sl} {Q : Fl → S → Prop} : (cBrk  Γ : M S _).rn s Q E = (.pure (.bk Γ) : M S _).rn s Q E := propext ⟨id, id⟩
theorem rn_cCont  {Γ : List Sl} {Q : Fl → S → Prop} : (cCont  Γ : M S _).rn s Q E = (.pure (.ct Γ) : M S _).rn s Q E := propext ⟨id, id⟩
theorem rn_eLc {vs : List Nat} {g : IG} {it : TIv S} {t : TTv S} {e : TEv S} {Γ : List Sl} {Q : Rv × List Sl → S → Prop} : (eLc vs g it t e Γ : M S _).rn s Q E = ((it Γ).bind fun p => .need (clearG p.2 vs = true ∧ p.1.length ≤ 1000000) ((lcLoop (lcBody vs g t e) p.1 (wipeG p.2 vs)).bind fun w => .pure (.own (.lst w.1), backG p.2 w.2 vs)) : M S _).rn s Q E := propext ⟨id, id⟩
theorem rn_eAll {vs : List Nat} {w : TIv S} {bd : D → List Sl → M S (Bool × List Sl)} {Γ : List Sl} {Q : Rv × List Sl → S → Prop} : (eAll vs w bd Γ : M S _).rn s Q E = ((w Γ).bind fun p => .need (clearG p.2 vs = true) ((allLoop bd p.1 (wipeG p.2 vs)).bind fun r => .pure (.dat (.bl r.1), backG p.2 (wipeG r.2 vs) vs)) : M S _).rn s Q E := propext ⟨id, id⟩
theorem rn_qYes  {Γ : List Sl} {Q : Bool × List Sl → S → Prop} : (qYes  Γ : M S _).rn s Q E = (.pure (true, Γ) : M S _).rn s Q E := propext ⟨id, id⟩
theorem rn_eCallK {F : List D → M S D} {n m : Nat} {pm : List Nat} {es ks : TEs S} {Γ : List Sl} {Q : Rv × List Sl → S → Prop} : (eCallK F n m pm es ks Γ : M S _).rn s Q E = ((es Γ).bind fun p => (ks p.2).bind fun q => (M.opt (frzs q.2 p.1)).bind fun a => (M.opt (frzs a.2 q.1)).bind fun b => (F (permL n m pm a.1 b.1)).bind fun d => .pure (.dat d, b.2) : M S _).rn s Q E := propext ⟨id, id⟩
theorem rn_eCallV {Fs : Nat → List D → M S D} {ar : Nat → Nat} {n i : Nat} {es : TEs S} {Γ : List Sl} {Q : Rv × List Sl → S → Prop} : (eCallV Fs ar n i es Γ : M S _).rn s Q E = ((M.opt (fnAt Γ i)).bind fun g => .need (ar g = n) (eCall (Fs g) es Γ) : M S _).rn s Q E := propext ⟨id, id⟩
theorem rn_eTab {tab : List (Str × D)} {e : TEv S} {Γ : List Sl} {Q : Rv × List Sl → S → Prop} : (eTab tab e Γ : M S _).rn s Q E = ((e Γ).bind fun p => (use p.2 p.1).bind fun x => (isS x).bind fun z => (M.opt (tab.lookup z)).bind fun d => .pure (.dat d, p.2) : M S _).rn s Q E := propext ⟨id, id⟩
end
theorem bb1 : (Bi.isBool == Bi.isInt) = false := rfl
theorem bb2 : (Bi.isInt == Bi.isInt) = true := rfl
theorem bb3 : (Bi.isTuple == Bi.isTuple) = true := rfl
section
variable {S : Type} {s : S} {α : Type}
theorem lc_map {c h : α → D} {ks : List α} {body : D → List Sl → M S (Option D × List Sl)} {Γ : List Sl} {Q : List D × List Sl → S → Prop} (hb : ∀ k ∈ ks, ∀ Q : Option D × List Sl → S → Prop, Q (some (h k), Γ) s → (body (c k) Γ).rn s Q noX) (q : Q (ks.map h, Γ) s) : (lcLoop body (ks.map c) Γ).rn s Q noX := by
  induction ks generalizing Q with
  | nil => exact q
  | cons k ks ih => exact hb k (.head _) _ (ih (fun e m => hb e (.tail _ m)) q)
theorem lc_filt {c h : α → D} {p : α → Bool} {ks : List α} {body : D → List Sl → M S (Option D × List Sl)} {Γ : List Sl} {Q : List D × List Sl → S → Prop} (hb : ∀ k ∈ ks, ∀ Q : Option D × List Sl → S → Prop, Q (if p k = true then some (h k) else none, Γ) s → (body (c k) Γ).rn s Q noX) (q : Q ((ks.filter p).map h, Γ) s) : (lcLoop body (ks.map c) Γ).rn s Q noX := by
  induction ks generalizing Q with
  | nil => exact q
  | cons k ks ih =>
    refine hb k (.head _) _ (ih (fun e m => hb e (.tail _ m)) ?_)
    rw [List.filter_cons] at q
    by_cases e : p k = true
    · rw [if_pos e] at q ⊢; exact q
    · rw [if_neg e] at q ⊢; exact q
/-- turns that change the state -/
theorem lc_st {c : α → D} {P : α → Prop} {I : S → Prop} {body : D → List Sl → M S (Option D × List Sl)} {Γ : List Sl} : ∀ {ds : List D} {s : S} {Q : List D × List Sl → S → Prop}, (∀ d ∈ ds, ∀ t, I t → ∀ Q : Option D × List Sl → S → Prop, (∀ a u, P a → I u → Q (some (c a), Γ) u) → (body d Γ).rn t Q noX) → I s → (∀ (as : List α) u, as.length = ds.length → (∀ a ∈ as, P a) → I u → Q (as.map c, Γ) u) → (lcLoop body ds Γ).rn s Q noX
  | [], s, Q, _, i, q => q [] s rfl (fun _ m => nomatch m) i
  | d :: ds, s, Q, h, i, q => h d (.head _) s i _ fun a u pa iu => lc_st (fun e m => h e (.tail _ m)) iu fun as v hl pas iv => q (a :: as) v (by simp [hl]) (fun b m => by
      cases m with
      | head => exact pa
      | tail _ m => exact pas b m) iv
theorem for_rn {body : D → List Sl → M S Fl} {I : Nat → List Sl → S → Prop} {ds : List D} {Q : Fl → S → Prop}
    (h : ∀ (i : Nat) (d : D) (Γ : List Sl) (t : S), ds[i]? = some d → I i Γ t → (body d Γ).rn t (fun f u => match f with | .nx Γ' => I (i + 1) Γ' u | .ct Γ' => I (i + 1) Γ' u | .bk Γ' => Q (.nx Γ') u | .rt v => Q (.rt v) u) noX)
    (q : ∀ Γ t, I ds.length Γ t → Q (.nx Γ) t) : ∀ (Γ : List Sl) (t : S), I 0 Γ t → (forLoop body ds Γ).rn t Q noX := for_run (I := I) h q
theorem all_true {body : D → List Sl → M S (Bool × List Sl)} {I : List Sl → Prop} : ∀ {ds : List D} {Γ : List Sl} {Q : Bool × List Sl → S → Prop}, (∀ d ∈ ds, ∀ Γ, I Γ → ∀ Q : Bool × List Sl → S → Prop, (∀ Γ', I Γ' → Q (true, Γ') s) → (body d Γ).rn s Q noX) → I Γ → (∀ Γ', I Γ' → Q (true, Γ') s) → (allLoop body ds Γ).rn s Q noX
  | [], Γ, Q, _, i, q => q Γ i
  | d :: ds, Γ, Q, h, i, q => h d (.head _) Γ i _ fun Γ' i' => ⟨fun _ => all_true (fun e m => h e (.tail _ m)) i' q, fun z => (nomatch z)⟩
theorem bind_congr {α β : Type} {m : M S β} {f : β → M S α} {Q : α → S → Prop} {E : Xn → S → Prop} (h : m.rn s (fun a t => (f a).rn t Q E) E) : (m.bind f).rn s Q E := h
end
end Ev
namespace K15
open PySem Ev Fit
/-- the deck at a -/
def Dk (a : Addr) (s : SD) : Prop := ∃ dk, s = some dk ∧ DkOk dk ∧ dk.a = a
theorem draw {a : Addr} {s : SD} (m : Nat) (hs : Dk a s) {Q : D → SD → Prop} (q : ∀ j s', j < m → Dk a s' → Q (iD j) s') (h1 : 1 ≤ m := by omega) (h2 : m < 1000000000 := by omega) : (F__law_draw [.ref a, .int (m : Int)]).rn s Q noX := by
  obtain ⟨dk, rfl, ok, rfl⟩ := hs
  refine law_draw dk m (by omega) (by omega) ok Q fun i dk' i0 i1 ok' ea _ => ?_
  obtain ⟨j, rfl⟩ := Int.eq_ofNat_of_zero_le i0
  exact q j _ (by omega) ⟨dk', rfl, ok', ea⟩
theorem shuffled {a : Addr} {s : SD} (n : Nat) (hs : Dk a s) {Q : D → SD → Prop} (q : ∀ p s', Pm n p → Dk a s' → Q (tD p) s') (hn : n ≤ 1000 := by omega) : (F__law_shuffled [.ref a, .int (n : Int)]).rn s Q noX := by
  obtain ⟨dk, rfl, ok, rfl⟩ := hs
  exact law_shuffled dk n hn ok Q fun p dk' hp ok' ea => q p _ ⟨hp⟩ ⟨dk', rfl, ok', ea⟩
/-! data of ints -/
theorem toPs_iD : ∀ xs : List Nat, toPs (xs.map iD) = xs.map fun (k : Nat) => PyData.int k
  | [] => rfl
  | x :: xs => by rw [List.map_cons, List.map_cons, toPs, toPs_iD xs]; rfl
theorem flats_iD : ∀ xs : List Nat, flats (xs.map iD) = true
  | [] => rfl
  | x :: xs => by rw [List.map_cons, flats, flats_iD xs]; rfl
end K15
local macro_rules
  | `(tactic| push_cast [$ts,*]) => `(tactic| try simp only [Ev.rn_pure, Ev.rn_bind, Ev.rn_some, Ev.rn_need, Ev.rn_use, Ev.rn_isB, Ev.rn_isI, Ev.rn_isL, Ev.rn_isS, Ev.rn_asD, Ev.rn_forB, Ev.rn_lcBody, Ev.rn_allBody, Ev.rn_allBody2, Ev.rn_cons, Ev.rn_runD, Ev.rn_for, Ev.rn_nil, Ev.rn_ret, Ev.rn_if, Ev.rn_eVar, Ev.rn_eK, Ev.rn_e2, Ev.rn_eBin, Ev.rn_eNeg, Ev.rn_eCmp, Ev.rn_eChain, Ev.rn_eAnd, Ev.rn_eOr, Ev.rn_eNot, Ev.rn_eIf, Ev.rn_sNil, Ev.rn_sCons, Ev.rn_eTup, Ev.rn_eLst, Ev.rn_eIdx, Ev.rn_oNone, Ev.rn_oSome, Ev.rn_eSlc, Ev.rn_eRev, Ev.rn_eCall, Ev.rn_eIsi, Ev.rn_eBi, Ev.rn_eMeth, Ev.rn_eApp, Ev.rn_ePopAt, Ev.rn_ePop, Ev.rn_eExt, Ev.rn_qVal, Ev.rn_qAnd, Ev.rn_qOr, Ev.rn_qNot, Ev.rn_wIt, Ev.rn_wR1, Ev.rn_wR2, Ev.rn_cSet, Ev.rn_cUnp, Ev.rn_cPar, Ev.rn_cPar3, Ev.rn_cAug, Ev.rn_cPut, Ev.rn_cAugAt, Ev.rn_cDrop, Ev.rn_cRetN, Ev.rn_cPass, Ev.rn_cBrk, Ev.rn_cCont, Ev.rn_eLc, Ev.rn_eAll, Ev.rn_qYes, Ev.rn_eCallK, Ev.rn_eCallV, Ev.rn_eTab, Ev.thn_nx, Ev.thn_rt, Ev.thn_bk, Ev.thn_ct, Ev.retQ_rt, Ev.retQ_nx, Ev.augOp, Ev.intAt, Ev.sameSeq, Ev.D.truth, Ev.D.isInst, Ev.opBin, Ev.opCmp, Ev.opIdx, Ev.opSlc, Ev.opRev, Ev.opBi, Ev.opMeth, Ev.opd, Ev.valO, Ev.valOs, Ev.frz, Ev.frzs, Ev.ownL, Ev.setG, Ev.wipeG, Ev.clearG, Ev.backG, Ev.fixRv, Ev.putRv, Ev.itemsOf, Ev.fnAt, Ev.to_rn, Ev.rn_condT, Ev.rn_condF, List.map_cons, List.map_nil, List.length_cons, List.length_nil, Nat.reduceAdd, Nat.reduceSub, List.replicate_succ, List.replicate_zero, List.cons_append, List.nil_append, List.set_cons_succ, List.set_cons_zero, List.getElem?_cons_succ, List.getElem?_cons_zero, Bool.and_self, Bool.true_and, Bool.and_true, true_and, and_true, Option.getD_some, Ev.bb1, Ev.bb2, Ev.bb3, Bool.not_true, Bool.not_false, K15.tD, K15.iD, List.length_map, List.length_range, Fit.mat_length, K15.rngL_nat, $ts,*])
local macro_rules
  | `(tactic| walk_at "om") => `(tactic| first | omega | (simp; done) | (simp; omega))
local macro_rules
  | `(tactic| walk_at "nd") => `(tactic| repeat (refine And.intro (by first | omega | decide | walk_at "om") ?_))
local macro_rules
  | `(tactic| walk_at "nq") => `(tactic| repeat ((with_reducible refine And.intro ?_ ?_); (focus first | omega | decide | walk_at "om")))
/-! from K15P10.lean -/
set_option maxRecDepth 100000
set_option maxHeartbeats 4000000
namespace Ev
open PySem
/-- d is plain data, at most k deep, of at most w items: it can be shown -/
structure Shw (k w : Nat) (d : D) : Prop where
  flat : d.flat = true
  sh : d.toP.showable = true
  deep : d.toP.depth ≤ k
  lv : d.toP.leavesShort 13 = true
  bulk : d.toP.bulk ≤ w
theorem Shw.mono {k k' w w' : Nat} {d : D} (h : Shw k w d) (hk : k ≤ k' := by omega) (hw : w ≤ w' := by omega) : Shw k' w' d := ⟨h.flat, h.sh, Nat.le_trans h.deep hk, h.lv, Nat.le_trans h.bulk hw⟩
theorem Shw.int {i : Int} (h : i.natAbs < 10 ^ 12) : Shw 0 0 (.int i) := by
  refine ⟨rfl, ?_, Nat.le_refl _, ?_, Nat.le_refl _⟩
  · show decide (i.natAbs.log2 < 1920) = true
    refine decide_eq_true ?_
    by_cases h0 : i.natAbs = 0
    · rw [h0]; decide
    · exact Nat.lt_of_lt_of_le ((Nat.log2_lt h0).mpr (Nat.lt_trans h (show 10 ^ 12 < 2 ^ 40 by decide))) (by decide)
  · show decide ((PyData.shown (.int i)).length ≤ 13) = true
    refine decide_eq_true ?_
    show (Str.ofString (toString i)).length ≤ 13
    rw [ofString_length]
    exact int_text_length_le10 (by decide) h
theorem Shw.bl (b : Bool) : Shw 0 0 (.bl b) := ⟨rfl, rfl, Nat.le_refl _, rfl, Nat.le_refl _⟩
theorem Shw.non : Shw 0 0 .non := ⟨rfl, rfl, Nat.le_refl _, rfl, Nat.le_refl _⟩
theorem Shw.all {k w : Nat} : ∀ {ds : List D}, (∀ d ∈ ds, Shw k w d) → flats ds = true ∧ PyData.showableAll (toPs ds) = true ∧ PyData.depthAll (toPs ds) ≤ k ∧ PyData.leavesShortAll 13 (toPs ds) = true ∧ PyData.bulkAll (toPs ds) ≤ ds.length * (w + 1)
  | [], _ => ⟨rfl, rfl, Nat.zero_le _, rfl, Nat.zero_le _⟩
  | d :: ds, h => by
    have h1 := h d (.head _)
    obtain ⟨a1, a2, a3, a4, a5⟩ := Shw.all (ds := ds) fun e m => h e (.tail _ m)
    refine ⟨?_, ?_, ?_, ?_, ?_⟩
    · rw [flats, h1.flat, a1]; rfl
    · rw [toPs, PyData.showableAll, h1.sh, a2]; rfl
    · rw [toPs, PyData.depthAll]; exact Nat.max_le.mpr ⟨h1.deep, a3⟩
    · rw [toPs, PyData.leavesShortAll, h1.lv, a4]; rfl
    · rw [toPs, PyData.bulkAll, List.length_cons, Nat.succ_mul]
      have := h1.bulk
      omega
theorem Shw.tup {k w : Nat} {ds : List D} (h : ∀ d ∈ ds, Shw k w d) : Shw (k + 1) (ds.length * (w + 1)) (.tup ds) := by
  obtain ⟨a1, a2, a3, a4, a5⟩ := Shw.all h
  exact ⟨by rw [D.flat]; exact a1, by rw [D.toP, PyData.showable]; exact a2, by rw [D.toP, PyData.depth]; omega, by rw [D.toP, PyData.leavesShort]; exact a4, by rw [D.toP, PyData.bulk]; exact a5⟩
theorem Shw.lst {k w : Nat} {ds : List D} (h : ∀ d ∈ ds, Shw k w d) : Shw (k + 1) (ds.length * (w + 1)) (.lst ds) := by
  obtain ⟨a1, a2, a3, a4, a5⟩ := Shw.all h
  exact ⟨by rw [D.flat]; exact a1, by rw [D.toP, PyData.showable]; exact a2, by rw [D.toP, PyData.depth]; omega, by rw [D.toP, PyData.leavesShort]; exact a4, by rw [D.toP, PyData.bulk]; exact a5⟩
theorem Shw.ok {k w : Nat} {d : D} (h : Shw k w d) (hk : k ≤ 60 := by omega) : d.ok = true := by
  unfold D.ok
  rw [h.flat, decide_eq_true (Nat.le_trans h.deep hk)]; rfl
theorem Shw.repr {k w : Nat} {d : D} (h : Shw k w d) (hk : k ≤ 60 := by omega) (hw : w ≤ 60000 := by omega) : d.flat = true ∧ d.toP.showable = true ∧ d.toP.depth ≤ 60 ∧ d.toP.shown.length ≤ 1000000 := by
  have h1 := PyData.shown_le_bulk 13 (by decide) d.toP h.lv
  have h2 := h.bulk
  exact ⟨h.flat, h.sh, Nat.le_trans h.deep hk, by omega⟩
/-! equal data -/
mutual
theorem eqv_of : ∀ d e : D, d.flat = true → e.flat = true → d.toP = e.toP → PyData.eqv d.toP e.toP = true
  | d, e, h, h2, q => by
    rw [← q]
    exact eqv_self d h
theorem eqv_self : ∀ d : D, d.flat = true → PyData.eqv d.toP d.toP = true
  | .non, _ => rfl
  | .bl b, _ => by simp [D.toP, PyData.eqv]
  | .int i, _ => by simp [D.toP, PyData.eqv]
  | .str x, _ => by simp [D.toP, PyData.eqv]
  | .tup xs, h => by rw [D.toP, PyData.eqv]; exact eqvs_self xs (by rwa [D.flat] at h)
  | .lst xs, h => by rw [D.toP, PyData.eqv]; exact eqvs_self xs (by rwa [D.flat] at h)
theorem eqvs_self : ∀ ds : List D, flats ds = true → PyData.eqvAll (toPs ds) (toPs ds) = true
  | [], _ => rfl
  | d :: ds, h => by
    rw [flats, Bool.and_eq_true] at h
    rw [toPs, PyData.eqvAll, eqv_self d h.1, eqvs_self ds h.2]; rfl
end
theorem D.eqv_self {d : D} (h : d.ok = true) : D.eqv d d = true := by
  unfold D.ok at h
  rw [Bool.and_eq_true] at h
  exact Ev.eqv_self d h.1
theorem eqv_int (i j : Int) : D.eqv (.int i) (.int j) = (i == j) := by
  show PyData.eqv (.int i) (.int j) = _
  rw [PyData.eqv]
theorem eqv_ints : ∀ (a b : List Nat), PyData.eqvAll (toPs (a.map fun (k : Nat) => D.int k)) (toPs (b.map fun (k : Nat) => D.int k)) = decide (a = b)
  | [], [] => rfl
  | [], y :: b => rfl
  | x :: a, [] => rfl
  | x :: a, y :: b => by
    rw [List.map_cons, List.map_cons, toPs, toPs, PyData.eqvAll, eqv_ints a b]
    show (PyData.eqv (.int x) (.int y) && _) = _
    rw [PyData.eqv]
    by_cases h : x = y
    · subst h; simp
    · have : ((x : Int) == (y : Int)) = false := beq_eq_false_iff_ne.mpr (by omega)
      rw [this]; simp [h]
theorem eqv_tups (a b : List Nat) : D.eqv (.tup (a.map fun (k : Nat) => D.int k)) (.tup (b.map fun (k : Nat) => D.int k)) = decide (a = b) := by
  unfold D.eqv
  rw [D.toP, D.toP, PyData.eqv]
  exact eqv_ints a b
end Ev
namespace K15
open PySem Ev Fit
theorem Shw.iD {k : Nat} (h : k < 10 ^ 12 := by omega) : Shw 0 0 (iD k) := Shw.int h
theorem Shw.tD {a : List Nat} (h : ∀ y ∈ a, y < 10 ^ 12) : Shw 1 a.length (tD a) := by
  have := Shw.tup (k := 0) (w := 0) (ds := a.map K15.iD) fun d m => by
    obtain ⟨y, hy, rfl⟩ := List.mem_map.mp m
    exact Shw.int (h y hy)
  rw [List.length_map] at this
  exact this.mono
theorem eqv_tD (a b : List Nat) : D.eqv (tD a) (tD b) = decide (a = b) := eqv_tups a b
theorem tD_ok {a : List Nat} (h : ∀ y ∈ a, y < 10 ^ 12) : (tD a).ok = true := (Shw.tD h).ok
theorem iD_ok {k : Nat} (h : k < 10 ^ 12 := by omega) : (iD k).ok = true := (Shw.iD h).ok
theorem iDeq (j k : Nat) : D.eqv (iD j) (iD k) = (j == k) := by
  rw [eqv_int]
  by_cases h : j = k
  · subst h; simp
  · have : ((j : Int) == (k : Int)) = false := beq_eq_false_iff_ne.mpr (by omega)
    rw [this]; simpa using h
end K15
/-! from K15P11.lean -/
set_option maxRecDepth 100000
set_option maxHeartbeats 4000000
namespace K15
open PySem Ev Fit
theorem at_mat {n : Nat} {f : Nat → Nat → Nat} {x : Nat} (h : x < n) : at? ((mat n f).map tD) (x : Int) = some (.tup (((List.range n).map (f x)).map iD)) :=
  at_nat (by rw [List.getElem?_map, mat_at h]; rfl)
theorem at_row {n : Nat} {g : Nat → Nat} {y : Nat} (h : y < n) : at? (((List.range n).map g).map iD) (y : Int) = some (.int (g y : Nat)) :=
  at_nat (by rw [List.getElem?_map, fn_at g h]; rfl)
theorem at_list {a : List Nat} {k : Nat} (h : k < a.length) : at? (a.map iD) (k : Int) = some (.int (a.getD k 0 : Nat)) := at_nat (get_iD h)
theorem place_row {n : Nat} {f g : Nat → Nat → Nat} (r : Rl n f g) {x y : Nat} (hx : x < n) (hy : y < n) : place (((List.range n).map (f (f x y))).map iD) (.int (x : Nat)) = some (g x y) :=
  (place_iD _ x).trans (r.idx hx hy)
theorem row_ok {n : Nat} {g : Nat → Nat} (b : ∀ y, y < n → g y < n) (hn : n ≤ 1000) : (D.tup (((List.range n).map g).map iD)).ok = true :=
  tD_ok fun y hy => by
    obtain ⟨z, hz, rfl⟩ := List.mem_map.mp hy
    have := b z (List.mem_range.mp hz)
    omega
theorem law_mirrored (s : SD) (n : Nat) (hn : n ≤ 1000) {f g : Nat → Nat → Nat} (r : Rl n f g) (Q : D → SD → Prop) (q : Q (.lst ((mat n fun y x => g x y).map tD)) s) : (F__law_mirrored [.lst ((mat n f).map tD)]).rn s Q noX := by
  unfold F__law_mirrored b__law_mirrored
  push_cast [Ev.rn_bind]
  refine ⟨by omega, by omega, by omega, lc_map (h := fun y => .tup (((List.range n).map fun x => g x y).map iD)) (fun y hy Q1 q1 => ?_) ?_⟩
  · have hy := List.mem_range.mp hy
    push_cast [Ev.rn_bind]
    refine ⟨by omega, by omega, lc_map (h := fun x => .int (g x y : Nat)) (fun x hx Q2 q2 => ?_) ?_⟩
    · have hx := List.mem_range.mp hx
      push_cast [at_mat hx, at_row hy, at_mat (r.fb x y hx hy), place_row r hx hy]
      exact ⟨⟨row_ok (fun z hz => r.fb _ z (r.fb x y hx hy) hz) hn, iD_ok⟩, q2⟩
    · push_cast [Ev.rn_bind]
      rw [List.map_map] at q1
      exact q1
  · push_cast [Ev.rn_bind]
    unfold mat at q
    rw [List.map_map] at q
    exact q
end K15
/-! from K15P12.lean -/
set_option maxRecDepth 100000
set_option maxHeartbeats 4000000
namespace K15
open PySem Ev Fit
def prD (f g : Nat → Nat → Nat) (x y : Nat) : D := .tup [.int (f x y : Nat), .int (g x y : Nat)]
def tbR (n : Nat) (f g : Nat → Nat → Nat) (x : Nat) : D := .tup ((List.range n).map (prD f g x))
def tbD (n : Nat) (f g : Nat → Nat → Nat) : D := .tup ((List.range n).map (tbR n f g))
theorem law_table (s : SD) (n : Nat) (hn : n ≤ 1000) {f g : Nat → Nat → Nat} (r : Rl n f g) (Q : D → SD → Prop) (q : Q (tbD n f g) s) : (F__law_table [.lst ((mat n f).map tD)]).rn s Q noX := by
  unfold F__law_table b__law_table
  push_cast [Ev.rn_bind]
  refine ⟨by omega, by omega, by omega, lc_map (h := tbR n f g) (fun x hx Q1 q1 => ?_) ?_⟩
  · have hx := List.mem_range.mp hx
    push_cast [Ev.rn_bind]
    refine ⟨by omega, by omega, lc_map (h := prD f g x) (fun y hy Q2 q2 => ?_) ?_⟩
    · have hy := List.mem_range.mp hy
      push_cast [at_mat hx, at_row hy, at_mat (r.fb x y hx hy), place_row r hx hy]
      exact ⟨⟨row_ok (fun z hz => r.fb _ z (r.fb x y hx hy) hz) hn, iD_ok⟩, by omega, q2⟩
    · push_cast [Ev.rn_bind]
      exact q1
  · push_cast [Ev.rn_bind]
    exact q
theorem law_crossed (s : SD) {m k : Nat} (hm : m ≤ 1000) (hk : k ≤ 1000) {f1 f2 : Nat → Nat → Nat} {p q : List Nat} (hp : Pm m p) (hq : Pm k q) (Q : D → SD → Prop) (hQ : Q (.lst ((mat (m + k) (xF m f1 f2 (fun y => p.getD y 0) (fun y => q.getD y 0))).map tD)) s) :
    (F__law_crossed [.lst ((mat m f1).map tD), .lst ((mat k f2).map tD), tD p, tD q]).rn s Q noX := by
  rw [← mat_cross hp hq] at hQ
  unfold F__law_crossed b__law_crossed
  have lp := hp.len
  have lq := hq.len
  push_cast [Ev.rn_bind]
  refine ⟨by omega, by omega, lc_map (h := fun t => tD (t ++ q.map (m + ·))) (fun t ht Q1 q1 => ?_) ?_⟩
  · push_cast [Ev.rn_bind]
    refine ⟨by omega, lc_map (h := fun z => iD (m + z)) (fun z hz Q2 q2 => ?_) ?_⟩
    · push_cast [Ev.rn_bind]
      have e : ((m : Int) + (z : Int)) = ((m + z : Nat) : Int) := by omega
      rw [e]; exact q2
    · push_cast [Ev.rn_bind]
      obtain ⟨x, hx, rfl⟩ := List.mem_map.mp ht
      refine ⟨⟨by walk_at "om", by omega⟩, ?_⟩
      simp only [tD, List.map_append, List.map_map] at q1 ⊢
      exact q1
  · push_cast [Ev.rn_bind]
    refine ⟨by omega, lc_map (h := fun t => tD (p ++ t.map (m + ·))) (fun t ht Q1 q1 => ?_) ?_⟩
    · push_cast [Ev.rn_bind]
      obtain ⟨x, hx, rfl⟩ := List.mem_map.mp ht
      refine ⟨by walk_at "om", lc_map (h := fun z => iD (m + z)) (fun z hz Q2 q2 => ?_) ?_⟩
      · push_cast [Ev.rn_bind]
        have e : ((m : Int) + (z : Int)) = ((m + z : Nat) : Int) := by omega
        rw [e]; exact q2
      · push_cast [Ev.rn_bind]
        refine ⟨⟨by omega, by walk_at "om"⟩, ?_⟩
        simp only [tD, List.map_append, List.map_map] at q1 ⊢
        exact q1
    · push_cast [Ev.rn_bind]
      refine ⟨⟨by omega, by omega⟩, ?_⟩
      rw [List.map_append, List.map_map, List.map_map] at hQ
      exact hQ
theorem aft_row {n : Nat} {a : List Nat} {g : Nat → Nat} : aft a ((List.range n).map g) = (List.range n).map fun y => a.getD (g y) 0 := by
  unfold aft; rw [List.map_map]; rfl
theorem law_keeps (s : SD) {n : Nat} (hn : n ≤ 1000) {f g : Nat → Nat → Nat} (r : Rl n f g) {p : List Nat} (hp : Pm n p) (Q : D → SD → Prop) (q : ∀ b, (b = true → ∀ x y, x < n → y < n → p.getD (f x y) 0 = f (p.getD x 0) (p.getD y 0)) → Q (.bl b) s) :
    (F__law_keeps [.lst ((mat n f).map tD), tD p]).rn s Q noX := by
  unfold F__law_keeps b__law_keeps
  have lp := hp.len
  push_cast [Ev.rn_bind]
  refine ⟨by omega, by omega, for_rn (I := fun i Γ t => t = s ∧ (∀ x y, x < i → y < n → p.getD (f x y) 0 = f (p.getD x 0) (p.getD y 0)) ∧ ∃ x : Sl, Γ = [.dat (.lst ((mat n f).map tD)), .dat (tD p), x]) (fun i d Γ t hd hI => ?_) (fun Γ t hI => ?_) _ _ ⟨rfl, fun _ _ h => absurd h (Nat.not_lt_zero _), _, rfl⟩⟩
  · obtain ⟨rfl, hk, x0, rfl⟩ := hI
    have hi : i < n := by
      have := (List.getElem?_eq_some_iff.mp hd).1
      simpa using this
    have ed : d = iD i := by
      rw [List.getElem?_map, List.getElem?_range hi] at hd
      exact (Option.some.inj hd).symm
    subst ed
    have hpi := hp.b i hi
    push_cast [at_mat hi, at_list (a := p) (k := i) (by omega), at_mat hpi]
    refine law_afterN t p _ _ (fun y hy => ?_) (by walk_at "om") ?_
    · obtain ⟨z, hz, rfl⟩ := List.mem_map.mp hy
      have := r.fb i z hi (List.mem_range.mp hz)
      omega
    push_cast [Ev.rn_bind]
    refine law_afterN t _ p _ (fun y hy => ?_) (by omega) ?_
    · have := hp.lt hy; simpa using this
    rw [aft_row]
    have e2 : aft ((List.range n).map (f (p.getD i 0))) p = (List.range n).map fun y => f (p.getD i 0) (p.getD y 0) := by
      conv => lhs; arg 2; rw [hp.eq]
      rw [aft_row]
      exact fn_ext fun y hy => fn_getD _ _ (hp.b y hy)
    rw [e2]
    push_cast [Ev.rn_bind]
    refine ⟨⟨tD_ok fun y hy => ?_, tD_ok fun y hy => ?_⟩, fun hne => ?_, fun heq => ?_⟩
    · obtain ⟨z, hz, rfl⟩ := List.mem_map.mp hy
      have := hp.b _ (r.fb i z hi (List.mem_range.mp hz))
      omega
    · obtain ⟨z, hz, rfl⟩ := List.mem_map.mp hy
      have := r.fb _ _ hpi (hp.b z (List.mem_range.mp hz))
      omega
    · exact q false fun h => (nomatch h)
    · have heq : (!D.eqv (tD _) (tD _)) = false := heq
      rw [eqv_tD, Bool.not_eq_false', decide_eq_true_eq] at heq
      refine ⟨rfl, fun x y hx hy => ?_, _, rfl⟩
      by_cases hxi : x < i
      · exact hk x y hxi hy
      · obtain rfl : x = i := by omega
        have := congrArg (fun l => l.getD y 0) heq
        rwa [fn_getD _ _ hy, fn_getD _ _ hy] at this
  · obtain ⟨rfl, hk, x0, rfl⟩ := hI
    push_cast [Ev.rn_bind]
    refine q true fun _ x y hx hy => hk x y (by simpa using hx) hy
end K15
/-! from K15P13.lean -/
set_option maxRecDepth 100000
set_option maxHeartbeats 4000000
namespace K15
open PySem Ev Fit
theorem rng_at {n i : Nat} {d : D} (h : ((List.range n).map iD)[i]? = some d) : i < n ∧ d = iD i := by
  have hi : i < n := by
    have := (List.getElem?_eq_some_iff.mp h).1
    simpa using this
  rw [List.getElem?_map, List.getElem?_range hi] at h
  exact ⟨hi, (Option.some.inj h).symm⟩
theorem mem_cut {xs : List D} {lo hi : Option Int} {d : D} (h : d ∈ cut xs lo hi) : d ∈ xs := by
  unfold cut at h
  exact List.mem_of_mem_drop (List.mem_of_mem_take h)
theorem cut_len {xs : List D} {lo hi : Option Int} : (cut xs lo hi).length ≤ xs.length := by
  unfold cut
  rw [List.length_take, List.length_drop]
  omega
theorem place_pm {n : Nat} {p : List Nat} (h : Pm n p) {x : Nat} (hx : x < n) : place (p.map iD) (.int (x : Nat)) = some (p.idxOf x) := (place_iD _ x).trans (h.idx hx)
theorem _root_.Fit.Pm.tn {n : Nat} {p : List Nat} (h : Pm n p) : Tn n p := ⟨h.len, fun y hy => h.lt hy⟩
theorem _root_.Fit.Pm.ok {n : Nat} {p : List Nat} (h : Pm n p) (hn : n ≤ 1000) : (D.tup (p.map iD)).ok = true := tD_ok fun y hy => by
  have := h.lt hy; omega
theorem law_kept {a : Addr} {s : SD} (hs : Dk a s) {n : Nat} (h1 : 1 ≤ n) (hn : n ≤ 1000) {f g : Nat → Nat → Nat} (r : Rl n f g) (Q : D → SD → Prop) (q : ∀ p s', Pm n p → (∀ x y, x < n → y < n → p.getD (f x y) 0 = f (p.getD x 0) (p.getD y 0)) → Dk a s' → Q (tD p) s') :
    (F__law_kept [.ref a, .lst ((mat n f).map tD)]).rn s Q noX := by
  unfold F__law_kept b__law_kept
  push_cast [Ev.rn_bind]
  refine ⟨by omega, draw 4 hs fun way s1 _ hs1 => ?_⟩
  push_cast [Ev.rn_bind]
  refine ⟨by omega, by omega, by omega, for_rn (I := fun i Γ t => t = s1 ∧ ∃ (p : List Nat) (x : Sl), Pm n p ∧ Γ = [.dat (.ref a), .dat (.lst ((mat n f).map tD)), .dat (.int n), .dat (.int (way : Nat)), .dat (tD p), x, .no, .no]) (fun i d Γ t hd hI => ?_) (fun Γ t hI => ?_) _ _ ⟨rfl, List.range n, .no, Pm.range n, rfl⟩⟩
  · obtain ⟨rfl, p, x0, hp, rfl⟩ := hI
    have hi : i < n := by
      have := (List.getElem?_eq_some_iff.mp hd).1
      simpa using this
    have ed : d = iD i := by
      rw [List.getElem?_map, List.getElem?_range hi] at hd
      exact (Option.some.inj hd).symm
    subst ed
    have hb := hp.b' i hi
    push_cast [place_pm hp hi, at_mat hb]
    refine ⟨⟨hp.ok hn, iD_ok⟩, law_afterN t p _ _ (fun y hy => ?_) (by walk_at "om") ?_⟩
    · obtain ⟨z, hz, rfl⟩ := List.mem_map.mp hy
      have := r.fb _ z hb (List.mem_range.mp hz)
      rw [hp.len]; exact this
    push_cast [Ev.rn_bind]
    exact ⟨_, _, hp.aft (r.row hb), rfl⟩
  · obtain ⟨rfl, p, x0, hp, rfl⟩ := hI
    push_cast [Ev.rn_bind]
    refine draw n hs1 fun j s2 hj hs2 => ?_
    push_cast [at_mat hj]
    refine shuffled n hs2 fun p2 s3 hp2 hs3 => ?_
    push_cast [opSlc, cut_len]
    walk_at "nd"
    refine ⟨⟨Nat.le_trans cut_len (show 4 ≤ 1000000 by decide), Nat.le_trans cut_len (show 4 ≤ 1000000 by decide)⟩, ?_⟩
    have pms : ∀ d ∈ [D.tup (List.map iD p), D.tup (List.map iD (List.map (f j) (List.range n))), D.tup (List.map iD p2), D.tup (List.map iD (List.range n))], ∃ p, Pm n p ∧ d = tD p := fun d hd => by
      simp only [List.mem_cons, List.not_mem_nil, or_false] at hd
      rcases hd with rfl | rfl | rfl | rfl
      · exact ⟨_, hp, rfl⟩
      · exact ⟨_, r.row hj, rfl⟩
      · exact ⟨_, hp2, rfl⟩
      · exact ⟨_, Pm.range n, rfl⟩
    refine for_rn (I := fun i Γ t => t = s3 ∧ ∃ (x : Sl) (y : Sl), Γ = [.dat (.ref a), .dat (.lst ((mat n f).map tD)), .dat (.int n), .dat (.int (way : Nat)), .dat (tD p), x0, y, x]) (fun i d Γ t hd hI => ?_) (fun Γ t hI => ?_) _ _ ⟨rfl, _, _, rfl⟩
    · obtain ⟨rfl, x1, y1, rfl⟩ := hI
      obtain ⟨p3, hp3, rfl⟩ := pms d (by
        rcases List.mem_append.mp (List.mem_of_getElem? hd) with h | h
        · exact mem_cut h
        · exact mem_cut h)
      push_cast [Ev.rn_bind]
      refine law_keeps _ hn r hp3 _ fun b hb => ?_
      push_cast [Ev.rn_bind]
      refine ⟨fun e => ?_, fun e => ?_⟩
      · push_cast [Ev.rn_bind]
        exact q p3 _ hp3 (hb e) hs3
      · push_cast [Ev.rn_bind]
        exact ⟨_, _, rfl⟩
    · obtain ⟨rfl, x1, y1, rfl⟩ := hI
      push_cast [Ev.rn_bind]
      walk_at "nd"
      refine q _ _ (Pm.range n) (fun x y hx hy => ?_) hs3
      have e : ∀ z, z < n → (List.range n).getD z 0 = z := fun z hz => by
        rw [List.getD_eq_getElem?_getD, List.getElem?_range hz]; rfl
      rw [e x hx, e y hy, e _ (r.fb x y hx hy)]
end K15
/-! from K15P14.lean -/
set_option maxRecDepth 100000
set_option maxHeartbeats 4000000
namespace K15
open PySem Ev Fit
/-- the lefts of a rule of n kinds -/
def IsL (n : Nat) (d : D) : Prop := ∃ f g, Rl n f g ∧ d = .lst ((mat n f).map tD)
def unF (n u x y : Nat) : Nat := if x % 2 = 1 then (u * y) % n else y
def unG (n u x y : Nat) : Nat := if y % 2 = 1 then (u * x) % n else x
theorem unR {n u : Nat} (h : (n, u) ∈ [(4, 3), (6, 5), (8, 3), (8, 5), (8, 7)]) : Rl n (unF n u) (unG n u) := by
  simp only [List.mem_cons, List.not_mem_nil, or_false, Prod.mk.injEq] at h
  rcases h with ⟨rfl, rfl⟩ | ⟨rfl, rfl⟩ | ⟨rfl, rfl⟩ | ⟨rfl, rfl⟩ | ⟨rfl, rfl⟩
  all_goals exact Rl.by_all (by decide +kernel)
def tbF (L : List (List Nat)) (x y : Nat) : Nat := (L.getD x []).getD y 0
def tbG (L : List (List Nat)) (x y : Nat) : Nat := (L.getD (tbF L x y) []).idxOf x
def sixT : List (List (List Nat)) := [[[0, 1, 3, 2], [2, 3, 1, 0], [3, 2, 0, 1], [1, 0, 2, 3]], [[1, 0, 2, 3], [3, 2, 0, 1], [2, 3, 1, 0], [0, 1, 3, 2]], [[0, 1, 2, 3], [0, 1, 2, 3], [0, 1, 3, 2], [1, 0, 3, 2]], [[1, 0, 2, 3], [1, 0, 2, 3], [0, 1, 3, 2], [1, 0, 3, 2]], [[1, 0, 3, 2], [2, 3, 0, 1], [2, 3, 0, 1], [1, 0, 3, 2]], [[3, 0, 1, 2], [1, 2, 3, 0], [3, 0, 1, 2], [1, 2, 3, 0]]]
theorem six_ok : ∀ L ∈ sixT, mat 4 (tbF L) = L ∧ (∀ x, x < 4 → ∀ y, y < 4 → tbF L x y < 4 ∧ tbG L x y < 4 ∧ tbF L (tbF L x y) (tbG L x y) = x ∧ tbG L (tbF L x y) (tbG L x y) = y ∧ ∀ z, z < 4 → (tbF L x y = tbF L x z → y = z) ∧ (tbG L x y = tbG L z y → x = z) ∧ tbF L x (tbF L y z) = tbF L (tbF L x y) (tbF L (tbG L x y) z)) := by
  decide +kernel
theorem six_L {j : Nat} (h : j < 6) : ∃ d, (sixT.map fun L => D.lst (L.map tD))[j]? = some d ∧ IsL 4 d := by
  have hj : j < sixT.length := h
  refine ⟨.lst (sixT[j].map tD), by rw [List.getElem?_map, List.getElem?_eq_getElem hj]; rfl, tbF sixT[j], tbG sixT[j], ?_, ?_⟩
  · exact Rl.by_all (six_ok _ (List.getElem_mem hj)).2
  · rw [(six_ok _ (List.getElem_mem hj)).1]
theorem fmod_nat (a b : Nat) : (a : Int).fmod (b : Int) = ((a % b : Nat) : Int) := by
  rw [Int.fmod_eq_emod_of_nonneg _ (Int.natCast_nonneg b)]; rfl
theorem mem468 {n : Nat} (h : ([D.int 4, D.int 6, D.int 8].any fun z => z.eqv (.int (n : Nat))) = true) : n = 4 ∨ n = 6 ∨ n = 8 := by
  simp only [List.any_cons, List.any_nil, Bool.or_false, Bool.or_eq_true, eqv_int, beq_iff_eq] at h
  omega
end K15
/-! from K15P15.lean -/
set_option maxRecDepth 100000
set_option maxHeartbeats 4000000
namespace K15
open PySem Ev Fit
theorem base_un (s : SD) (n u : Nat) (hn : n ≤ 1000) (hu : u ≤ 1000) (h0 : 0 < n) (Q : D → SD → Prop) (x0 : Sl) (Γ0 : List Sl) (q : Q (.lst ((mat n (unF n u)).map tD)) s) (v0 v2 v3 : Sl) (v7 v8 v9 v10 v11 v12 v13 v14 : Sl) :
    ((cCons (cRet (eLc [4] (.name 4) (wR1 (eVar 1)) qYes (eBi .tuple (sCons (eLc [6] (.name 6) (wR1 (eVar 1)) qYes (eIf (qVal (eCmp .eq (eBin .mod (eBi .int1 (sCons (eVar 4) sNil)) (eK (.int 2))) (eK (.int 1)))) (eBin .mod (eBi .int1 (sCons (eBin .mul (eVar 5) (eVar 6)) sNil)) (eVar 1)) (eVar 6))) sNil))))
 cNil : TSv SD) [v0, .dat (.int n), v2, v3, .no, .dat (.int u), .no, v7, v8, v9, v10, v11, v12, v13, v14]).rn s (retQ Q) noX := by
  push_cast [Ev.rn_bind]
  walk_at "nd"
  refine lc_map (h := fun x => tD ((List.range n).map (unF n u x))) (fun x hx Q1 q1 => ?_) ?_
  · push_cast [Ev.rn_bind]
    walk_at "nd"
    refine lc_map (h := fun y => iD (unF n u x y)) (fun y hy Q2 q2 => ?_) ?_
    · push_cast [eqv_int]
      have hx := List.mem_range.mp hx
      have hy := List.mem_range.mp hy
      have e2 : ((x : Int).fmod 2) = ((x % 2 : Nat) : Int) := fmod_nat x 2
      rw [e2]
      refine ⟨by decide, ⟨(iD_ok (by have := Nat.mod_lt x (show 0 < 2 by decide); omega)), iD_ok (k := 1)⟩, fun e => ?_, fun e => ?_⟩
      · push_cast [Ev.rn_bind]
        have e : x % 2 = 1 := by
          have := eq_of_beq e
          omega
        refine ⟨by omega, by omega, ?_⟩
        have em : ((u : Int) * (y : Int)).fmod (n : Int) = ((unF n u x y : Nat) : Int) := by
          rw [← Int.natCast_mul, fmod_nat]
          unfold unF; rw [if_pos e]
        rw [em]; exact q2
      · push_cast [Ev.rn_bind]
        have e : x % 2 ≠ 1 := fun z => by
          rw [z] at e; cases e
        have em : unF n u x y = y := by unfold unF; rw [if_neg e]
        simp only [em] at q2
        exact q2
    · push_cast [Ev.rn_bind]
      simp only [tD, List.map_map] at q1
      exact q1
  · push_cast [Ev.rn_bind]
    unfold mat at q
    simp only [List.map_map] at q
    exact q
end K15
/-! from K15P16.lean -/
set_option maxRecDepth 100000
set_option maxHeartbeats 4000000
namespace K15
open PySem Ev Fit
def b_zero : TSv SD := (cCons (cRet (eLc [4] (.name 4) (wR1 (eVar 1)) qYes (eVar 3)))
 cNil)
def b_un : TSv SD := (cCons (cRet (eLc [4] (.name 4) (wR1 (eVar 1)) qYes (eBi .tuple (sCons (eLc [6] (.name 6) (wR1 (eVar 1)) qYes (eIf (qVal (eCmp .eq (eBin .mod (eBi .int1 (sCons (eVar 4) sNil)) (eK (.int 2))) (eK (.int 1)))) (eBin .mod (eBi .int1 (sCons (eBin .mul (eVar 5) (eVar 6)) sNil)) (eVar 1)) (eVar 6))) sNil))))
 cNil)
def b_six : TSv SD := (cCons (cSet 7 (eLst (sCons (eLst (sCons (eTup (sCons (eK (.int 0)) (sCons (eK (.int 1)) (sCons (eK (.int 3)) (sCons (eK (.int 2)) sNil))))) (sCons (eTup (sCons (eK (.int 2)) (sCons (eK (.int 3)) (sCons (eK (.int 1)) (sCons (eK (.int 0)) sNil))))) (sCons (eTup (sCons (eK (.int 3)) (sCons (eK (.int 2)) (sCons (eK (.int 0)) (sCons (eK (.int 1)) sNil))))) (sCons (eTup (sCons (eK (.int 1)) (sCons (eK (.int 0)) (sCons (eK (.int 2)) (sCons (eK (.int 3)) sNil))))) sNil))))) sNil)))
 (cCons (cDrop (eApp 7 (eLst (sCons (eTup (sCons (eK (.int 1)) (sCons (eK (.int 0)) (sCons (eK (.int 2)) (sCons (eK (.int 3)) sNil))))) (sCons (eTup (sCons (eK (.int 3)) (sCons (eK (.int 2)) (sCons (eK (.int 0)) (sCons (eK (.int 1)) sNil))))) (sCons (eTup (sCons (eK (.int 2)) (sCons (eK (.int 3)) (sCons (eK (.int 1)) (sCons (eK (.int 0)) sNil))))) (sCons (eTup (sCons (eK (.int 0)) (sCons (eK (.int 1)) (sCons (eK (.int 3)) (sCons (eK (.int 2)) sNil))))) sNil)))))))
 (cCons (cDrop (eApp 7 (eLst (sCons (eTup (sCons (eK (.int 0)) (sCons (eK (.int 1)) (sCons (eK (.int 2)) (sCons (eK (.int 3)) sNil))))) (sCons (eTup (sCons (eK (.int 0)) (sCons (eK (.int 1)) (sCons (eK (.int 2)) (sCons (eK (.int 3)) sNil))))) (sCons (eTup (sCons (eK (.int 0)) (sCons (eK (.int 1)) (sCons (eK (.int 3)) (sCons (eK (.int 2)) sNil))))) (sCons (eTup (sCons (eK (.int 1)) (sCons (eK (.int 0)) (sCons (eK (.int 3)) (sCons (eK (.int 2)) sNil))))) sNil)))))))
 (cCons (cDrop (eApp 7 (eLst (sCons (eTup (sCons (eK (.int 1)) (sCons (eK (.int 0)) (sCons (eK (.int 2)) (sCons (eK (.int 3)) sNil))))) (sCons (eTup (sCons (eK (.int 1)) (sCons (eK (.int 0)) (sCons (eK (.int 2)) (sCons (eK (.int 3)) sNil))))) (sCons (eTup (sCons (eK (.int 0)) (sCons (eK (.int 1)) (sCons (eK (.int 3)) (sCons (eK (.int 2)) sNil))))) (sCons (eTup (sCons (eK (.int 1)) (sCons (eK (.int 0)) (sCons (eK (.int 3)) (sCons (eK (.int 2)) sNil))))) sNil)))))))
 (cCons (cDrop (eApp 7 (eLst (sCons (eTup (sCons (eK (.int 1)) (sCons (eK (.int 0)) (sCons (eK (.int 3)) (sCons (eK (.int 2)) sNil))))) (sCons (eTup (sCons (eK (.int 2)) (sCons (eK (.int 3)) (sCons (eK (.int 0)) (sCons (eK (.int 1)) sNil))))) (sCons (eTup (sCons (eK (.int 2)) (sCons (eK (.int 3)) (sCons (eK (.int 0)) (sCons (eK (.int 1)) sNil))))) (sCons (eTup (sCons (eK (.int 1)) (sCons (eK (.int 0)) (sCons (eK (.int 3)) (sCons (eK (.int 2)) sNil))))) sNil)))))))
 (cCons (cDrop (eApp 7 (eLst (sCons (eTup (sCons (eK (.int 3)) (sCons (eK (.int 0)) (sCons (eK (.int 1)) (sCons (eK (.int 2)) sNil))))) (sCons (eTup (sCons (eK (.int 1)) (sCons (eK (.int 2)) (sCons (eK (.int 3)) (sCons (eK (.int 0)) sNil))))) (sCons (eTup (sCons (eK (.int 3)) (sCons (eK (.int 0)) (sCons (eK (.int 1)) (sCons (eK (.int 2)) sNil))))) (sCons (eTup (sCons (eK (.int 1)) (sCons (eK (.int 2)) (sCons (eK (.int 3)) (sCons (eK (.int 0)) sNil))))) sNil)))))))
 (cCons (cRet (eIdx (eVar 7) (eCall F__law_draw (sCons (eVar 0) (sCons (eBi .len (sCons (eVar 7) sNil)) sNil)))))
 cNil)))))))
def b_lots : TSv SD := (cCons (cPar3 8 9 10 (eLc [4] (.name 4) (wR1 (eVar 1)) qYes (eCall F__law_draw (sCons (eVar 0) (sCons (eK (.int 3)) sNil)))) (eLc [13] (.name 13) (wR1 (eK (.int 9))) qYes (eCall F__law_draw (sCons (eVar 0) (sCons (eK (.int 8)) sNil)))) (eLst sNil))
 (cCons (cFor (.name 4) (wR1 (eVar 1)) (cCons (cSet 11 (eLst sNil))
 (cCons (cFor (.name 6) (wR1 (eVar 1)) (cCons (cSet 12 (eLc [14] (.name 14) (wR1 (eVar 1)) (qVal (eCmp .eq (eIdx (eVar 8) (eVar 14)) (eIdx (eVar 8) (eVar 6)))) (eVar 14)))
 (cCons (cDrop (eApp 11 (eIdx (eVar 12) (eBin .mod (eBi .int1 (sCons (eBin .add (eMeth .index (eVar 12) (eVar 6)) (eIdx (eVar 9) (eBin .add (eBin .mul (eK (.int 3)) (eIdx (eVar 8) (eVar 4))) (eIdx (eVar 8) (eVar 6))))) sNil)) (eBi .len (sCons (eVar 12) sNil))))))
 cNil)))
 (cCons (cDrop (eApp 10 (eBi .tuple (sCons (eVar 11) sNil))))
 cNil))))
 (cCons (cRet (eVar 10))
 cNil)))
theorem b_base_eq : b__law_base = cCons (cPar 2 3 (eCall F__law_draw (sCons (eVar 0) (sCons (eK (.int 6)) sNil))) (eCall F__law_shuffled (sCons (eVar 0) (sCons (eVar 1) sNil))))
 (cCons (cIf (qVal (eCmp .eq (eVar 2) (eK (.int 0)))) b_zero cNil) (cCons (cIf (qAnd (qVal (eCmp .eq (eVar 2) (eK (.int 1)))) (qVal (eCmp .mem (eVar 1) (eTup (sCons (eK (.int 4)) (sCons (eK (.int 6)) (sCons (eK (.int 8)) sNil))))))) (cCons (cSet 5 (eIf (qVal (eCmp .lt (eVar 1) (eK (.int 8)))) (eBin .sub (eVar 1) (eK (.int 1))) (eBin .add (eK (.int 3)) (eBin .mul (eK (.int 2)) (eCall F__law_draw (sCons (eVar 0) (sCons (eK (.int 3)) sNil))))))) b_un) cNil) (cCons (cIf (qAnd (qVal (eCmp .eq (eVar 2) (eK (.int 2)))) (qVal (eCmp .eq (eVar 1) (eK (.int 4))))) b_six cNil) b_lots))) := rfl
theorem near_place {n : Nat} {l : List Nat} {y : Nat} (h : y < n) : place ((near n l y).map iD) (.int (y : Nat)) = some ((near n l y).idxOf y) := by
  refine (place_iD _ y).trans ?_
  have hm := List.idxOf_lt_length_iff.mpr (near_self (l := l) h)
  rw [List.findIdx?_eq_some_iff_getElem]
  refine ⟨hm, by simp, fun i hi => ?_⟩
  have := near_nodup (n := n) (l := l) (y := y)
  intro z
  have z := eq_of_beq z
  have e : (near n l y).idxOf ((near n l y)[i]'(by omega)) = i := near_nodup.idxOf_getElem i (by omega)
  rw [z] at e; omega
theorem lots_run {a : Addr} {s : SD} (hs : Dk a s) (n : Nat) (hn : n ≤ 1000) (Q : D → SD → Prop) (v2 v3 : Sl) (q : ∀ d s', IsL n d → Dk a s' → Q d s') :
    (b_lots [.dat (.ref a), .dat (.int n), v2, v3, .no, .no, .no, .no, .no, .no, .no, .no, .no, .no, .no]).rn s (retQ Q) noX := by
  unfold b_lots
  push_cast [Ev.rn_bind]
  walk_at "nd"
  refine lc_st (c := iD) (P := fun j => j < 3) (I := Dk a) (fun d hd t ht Q1 q1 => ?_) hs fun l s1 hl hl3 hs1 => ?_
  · push_cast [Ev.rn_bind]
    refine draw 3 ht fun j s' hj hs' => ?_
    push_cast [Ev.rn_bind]
    exact q1 j s' hj hs'
  push_cast [show rngL 0 9 = (List.range 9).map iD from rngL_nat 9]
  walk_at "nd"
  refine lc_st (c := iD) (P := fun j => j < 8) (I := Dk a) (fun d hd t ht Q1 q1 => ?_) hs1 fun st s2 hst hst8 hs2 => ?_
  · push_cast [Ev.rn_bind]
    refine draw 8 ht fun j s' hj hs' => ?_
    push_cast [Ev.rn_bind]
    exact q1 j s' hj hs'
  rw [List.length_map, List.length_range] at hl hst
  push_cast [Ev.rn_bind]
  walk_at "nd"
  refine for_rn (I := fun i Γ t => t = s2 ∧ ∃ (x4 x6 x11 x12 : Sl), (∀ z, x4 ≠ .own z) ∧ (∀ z, x6 ≠ .own z) ∧ Γ = [.dat (.ref a), .dat (.int n), v2, v3, x4, .no, x6, .no, .own (.lst (l.map iD)), .own (.lst (st.map iD)), .own (.lst (((List.range i).map fun x => (List.range n).map fun y => rot n l (st.getD (3 * l.getD x 0 + l.getD y 0) 0) y).map tD)), x11, x12, .no, .no]) (fun i d Γ t hd hI => ?_) (fun Γ t hI => ?_) _ _ ⟨rfl, .no, .no, .no, .no, (fun _ => nofun), (fun _ => nofun), rfl⟩
  · obtain ⟨rfl, x4, x6, x11, x12, h4, h6, rfl⟩ := hI
    obtain ⟨hi, rfl⟩ := rng_at hd
    push_cast [Ev.rn_bind]
    walk_at "nd"
    refine for_rn (I := fun j Γ u => u = t ∧ ∃ (x6 x12 : Sl), (∀ z, x6 ≠ .own z) ∧ Γ = [.dat (.ref a), .dat (.int n), v2, v3, .dat (iD i), .no, x6, .no, .own (.lst (l.map iD)), .own (.lst (st.map iD)), .own (.lst (((List.range i).map fun x => (List.range n).map fun y => rot n l (st.getD (3 * l.getD x 0 + l.getD y 0) 0) y).map tD)), .own (.lst (((List.range j).map fun y => rot n l (st.getD (3 * l.getD i 0 + l.getD y 0) 0) y).map iD)), x12, .no, .no]) (fun j d Γ u hd hI => ?_) (fun Γ u hI => ?_) _ _ ⟨rfl, x6, x12, h6, rfl⟩
    · obtain ⟨rfl, y6, y12, g6, rfl⟩ := hI
      obtain ⟨hj, rfl⟩ := rng_at hd
      have li : l.getD i 0 < 3 := by
        rw [getD_at' (by omega)]; exact hl3 _ (List.getElem_mem _)
      have lj : l.getD j 0 < 3 := by
        rw [getD_at' (by omega)]; exact hl3 _ (List.getElem_mem _)
      push_cast [Ev.rn_bind]
      walk_at "nd"
      refine lc_filt (h := iD) (p := fun z => l.getD z 0 == l.getD j 0) (fun z hz Q1 q1 => ?_) ?_
      · have hz := List.mem_range.mp hz
        have lz : l.getD z 0 < 3 := by
          rw [getD_at' (by omega)]; exact hl3 _ (List.getElem_mem _)
        push_cast [at_list (a := l) (k := z) (by omega), at_list (a := l) (k := j) (by omega)]
        refine ⟨⟨iD_ok, iD_ok⟩, fun e => ?_, fun e => ?_⟩
        · push_cast [Ev.rn_bind]
          have e : (l.getD z 0 == l.getD j 0) = true := (iDeq _ _).symm.trans e
          rw [if_pos e] at q1
          exact q1
        · push_cast [Ev.rn_bind]
          have e : (l.getD z 0 == l.getD j 0) = false := (iDeq _ _).symm.trans e
          rw [if_neg (by rw [e]; simp)] at q1
          exact q1
      · have enr : (List.range n).filter (fun z => l.getD z 0 == l.getD j 0) = near n l j := rfl
        have hlen : (near n l j).length ≤ n := by
          have := List.length_filter_le (fun z => l.getD z 0 == l.getD j 0) (List.range n)
          rw [List.length_range] at this
          exact this
        have hs27 : 3 * l.getD i 0 + l.getD j 0 < st.length := by omega
        have hst7 : st.getD (3 * l.getD i 0 + l.getD j 0) 0 < 8 := by
          rw [getD_at' hs27]; exact hst8 _ (List.getElem_mem _)
        have e3 : (3 * ((l.getD i 0 : Nat) : Int) + ((l.getD j 0 : Nat) : Int)) = ((3 * l.getD i 0 + l.getD j 0 : Nat) : Int) := by omega
        rw [enr]
        push_cast [at_list (a := l) (k := i) (by omega), at_list (a := l) (k := j) (by omega), near_place hj, e3, at_list hs27]
        have hpos := near_pos (l := l) hj
        have ei : (((near n l j).idxOf j : Nat) : Int) + ((st.getD (3 * l.getD i 0 + l.getD j 0) 0 : Nat) : Int) = (((near n l j).idxOf j + st.getD (3 * l.getD i 0 + l.getD j 0) 0 : Nat) : Int) := by omega
        have hat : at? ((near n l j).map iD) (((((near n l j).idxOf j + st.getD (3 * l.getD i 0 + l.getD j 0) 0) % (near n l j).length : Nat)) : Int) = some (iD (rot n l (st.getD (3 * l.getD i 0 + l.getD j 0) 0) j)) := at_list (rot_at hj)
        rw [ei, fmod_nat]
        push_cast [hat]
        refine ⟨⟨tD_ok fun y hy => ?_, iD_ok⟩, .inl (by decide), ?_⟩
        · have := (near_mem.mp hy).1; omega
        walk_at "nd"
        refine ⟨.dat (iD j), .own (.lst ((near n l j).map iD)), (fun _ => nofun), ?_⟩
        rw [List.range_succ, List.map_append, List.map_append]
        rfl
    · obtain ⟨rfl, y6, y12, g6, rfl⟩ := hI
      push_cast [Ev.rn_bind]
      walk_at "nd"
      refine ⟨.dat (iD i), y6, .own (.lst (((List.range n).map fun y => rot n l (st.getD (3 * l.getD i 0 + l.getD y 0) 0) y).map iD)), y12, (fun _ => nofun), g6, ?_⟩
      rw [List.range_succ, List.map_append, List.map_append]
      rfl
  · obtain ⟨rfl, x4, x6, x11, x12, h4, h6, rfl⟩ := hI
    push_cast [Ev.rn_bind]
    exact q _ _ ⟨_, _, Rl.rots st, rfl⟩ hs2
end K15
/-! from K15P17.lean -/
set_option maxRecDepth 100000
set_option maxHeartbeats 4000000
namespace K15
open PySem Ev Fit
theorem const_L {n : Nat} {p : List Nat} (h : Pm n p) : IsL n (.lst ((List.range n).map fun _ => tD p)) := by
  refine ⟨_, _, Rl.alike h.b h.b' h.to h.fro, ?_⟩
  unfold mat
  rw [List.map_map]
  congr 1
  refine fn_ext fun x hx => ?_
  show tD p = tD ((List.range n).map fun y => p.getD y 0)
  rw [← h.eq]
theorem rn_tup4 {a b c d : D} {Γ : List Sl} {s : SD} {Q : Rv × List Sl → SD → Prop} : (eTup (sCons (eK a) (sCons (eK b) (sCons (eK c) (sCons (eK d) sNil)))) Γ).rn s Q noX = Q (.dat (.tup [a, b, c, d]), Γ) s := by
  push_cast [Ev.rn_bind]
  refine propext ⟨fun h => h.2, fun h => ⟨by decide, h⟩⟩
theorem rn_row4 {a1 a2 a3 a4 b1 b2 b3 b4 c1 c2 c3 c4 d1 d2 d3 d4 : D} {Γ : List Sl} {s : SD} {Q : Rv × List Sl → SD → Prop} : (eLst (sCons (eTup (sCons (eK a1) (sCons (eK a2) (sCons (eK a3) (sCons (eK a4) sNil))))) (sCons (eTup (sCons (eK b1) (sCons (eK b2) (sCons (eK b3) (sCons (eK b4) sNil))))) (sCons (eTup (sCons (eK c1) (sCons (eK c2) (sCons (eK c3) (sCons (eK c4) sNil))))) (sCons (eTup (sCons (eK d1) (sCons (eK d2) (sCons (eK d3) (sCons (eK d4) sNil))))) sNil)))) Γ).rn s Q noX = Q (.own (.lst [.tup [a1, a2, a3, a4], .tup [b1, b2, b3, b4], .tup [c1, c2, c3, c4], .tup [d1, d2, d3, d4]]), Γ) s := by
  simp only [rn_eLst, rn_bind, rn_sCons, rn_tup4, rn_sNil, rn_pure, frzs, frz, opd, rn_some, rn_need]
  refine propext ⟨fun h => h.2, fun h => ⟨by simp, h⟩⟩
theorem law_base {a : Addr} {s : SD} (hs : Dk a s) (n : Nat) (h1 : 1 ≤ n) (hn : n ≤ 1000) (Q : D → SD → Prop) (q : ∀ d s', IsL n d → Dk a s' → Q d s') : (F__law_base [.ref a, .int (n : Nat)]).rn s Q noX := by
  unfold F__law_base
  rw [b_base_eq]
  push_cast [Ev.rn_bind]
  refine draw 6 hs fun way s1 hway hs1 => ?_
  push_cast [Ev.rn_bind]
  refine shuffled n hs1 fun p s2 hp hs2 => ?_
  push_cast [Ev.rn_bind]
  refine ⟨⟨iD_ok, iD_ok (k := 0)⟩, fun e => ?_, fun e => ?_⟩
  · unfold b_zero
    push_cast [Ev.rn_bind]
    walk_at "nd"
    refine lc_map (h := fun _ => tD p) (fun k hk Q1 q1 => ?_) ?_
    · push_cast [Ev.rn_bind]
      exact q1
    · push_cast [Ev.rn_bind]
      exact q _ _ (const_L hp) hs2
  push_cast [Ev.rn_bind]
  have lots : ∀ s, Dk a s → (b_lots [.dat (.ref a), .dat (.int n), .dat (.int (way : Nat)), .dat (tD p), .no, .no, .no, .no, .no, .no, .no, .no, .no, .no, .no]).rn s (retQ Q) noX := fun s hs => lots_run hs n hn Q _ _ q
  have six : ∀ s, Dk a s → ((cCons (cIf (qAnd (qVal (eCmp .eq (eVar 2) (eK (.int 2)))) (qVal (eCmp .eq (eVar 1) (eK (.int 4))))) b_six cNil) b_lots : TSv SD) [.dat (.ref a), .dat (.int n), .dat (.int (way : Nat)), .dat (tD p), .no, .no, .no, .no, .no, .no, .no, .no, .no, .no, .no]).rn s (retQ Q) noX := fun s hs => by
    push_cast [Ev.rn_bind]
    refine ⟨⟨iD_ok, iD_ok (k := 2)⟩, fun e => ?_, fun e => ?_⟩
    · push_cast [Ev.rn_bind]
      refine ⟨⟨iD_ok, iD_ok (k := 4)⟩, fun e => ?_, fun e => ?_⟩
      · rw [eqv_int] at e
        have e := eq_of_beq e
        obtain rfl : n = 4 := by omega
        unfold b_six
        push_cast [↓rn_row4, List.length_append]
        walk_at "nd"
        refine draw 6 hs fun j s3 hj hs3 => ?_
        obtain ⟨d, hd, hL⟩ := six_L hj
        have hat := at_nat hd
        push_cast [Ev.rn_bind]
        show (M.opt (at? (sixT.map fun L => D.lst (L.map tD)) (j : Int))).rn s3 (fun a t => Q a t) noX
        rw [hat]
        exact q d _ hL hs3
      · push_cast [Ev.rn_bind]
        exact lots _ hs
    · push_cast [Ev.rn_bind]
      exact lots _ hs
  refine ⟨⟨iD_ok, iD_ok (k := 1)⟩, fun e => ?_, fun e => ?_⟩
  · push_cast [Ev.rn_bind]
    refine ⟨by walk_at "om", ⟨iD_ok, rfl⟩, fun e => ?_, fun e => ?_⟩
    · have hn := mem468 e
      have un : ∀ u s, Dk a s → (n, u) ∈ [(4, 3), (6, 5), (8, 3), (8, 5), (8, 7)] → (b_un [.dat (.ref a), .dat (.int n), .dat (.int (way : Nat)), .dat (tD p), .no, .dat (.int (u : Nat)), .no, .no, .no, .no, .no, .no, .no, .no, .no]).rn s (retQ Q) noX := fun u s hs hm => base_un s n u (by omega) (by
          simp only [List.mem_cons, List.not_mem_nil, or_false, Prod.mk.injEq] at hm
          omega) (by omega) Q .no [] (q _ _ ⟨_, _, unR hm, rfl⟩ hs) _ _ _ _ _ _ _ _ _ _ _
      push_cast [Ev.rn_bind]
      refine ⟨fun e8 => ?_, fun e8 => ?_⟩
      · have e8 := of_decide_eq_true e8
        push_cast [Ev.rn_bind]
        have eu : ((n : Int) - 1) = ((n - 1 : Nat) : Int) := by omega
        rw [eu]
        refine un (n - 1) _ hs2 ?_
        rcases hn with rfl | rfl | rfl
        · decide
        · decide
        · omega
      · have e8 := of_decide_eq_false e8
        push_cast [Ev.rn_bind]
        refine draw 3 hs2 fun j s3 hj hs3 => ?_
        push_cast [Ev.rn_bind]
        refine ⟨.inl (by decide), ?_⟩
        have eu : (3 + 2 * (j : Int)) = ((3 + 2 * j : Nat) : Int) := by omega
        rw [eu]
        refine un (3 + 2 * j) _ hs3 ?_
        obtain rfl : n = 8 := by omega
        have : j = 0 ∨ j = 1 ∨ j = 2 := by omega
        rcases this with rfl | rfl | rfl <;> decide
    · simp only [to_rn, rn_pure, rn_condF, rn_nil, thn_nx]
      exact six _ hs2
  · simp only [to_rn, rn_pure, rn_condF, rn_nil, thn_nx]
    exact six _ hs2
end K15
/-! from K15P18.lean -/
set_option maxRecDepth 100000
set_option maxHeartbeats 2000000
namespace Ev
theorem rn_weak {S α : Type} {m : M S α} {s : S} {Q Q' : α → S → Prop} (h : m.rn s Q' noX) (i : ∀ a t, Q' a t → Q a t) : m.rn s Q noX := m.mono _ _ _ _ _ i (fun _ _ e => e) h
end Ev
namespace K15
open PySem Ev Fit
theorem cross_L {m k : Nat} {f1 g1 f2 g2 : Nat → Nat → Nat} (r1 : Rl m f1 g1) (r2 : Rl k f2 g2) {p q : List Nat} (hp : Pm m p) (hq : Pm k q) (kp : ∀ x y, x < m → y < m → p.getD (f1 x y) 0 = f1 (p.getD x 0) (p.getD y 0)) (kq : ∀ x y, x < k → y < k → q.getD (f2 x y) 0 = f2 (q.getD x 0) (q.getD y 0)) :
    IsL (m + k) (.lst ((mat (m + k) (xF m f1 f2 (fun y => p.getD y 0) (fun y => q.getD y 0))).map tD)) :=
  ⟨_, _, r1.cross r2 ⟨hp.b, hp.b', hp.to, hp.fro, kp⟩ ⟨hq.b, hq.b', hq.to, hq.fro, kq⟩, rfl⟩
theorem rename_L {n : Nat} {f g : Nat → Nat → Nat} (r : Rl n f g) {p : List Nat} (hp : Pm n p) : IsL n (.lst ((mat n fun x y => p.getD (f (p.idxOf x) (p.idxOf y)) 0).map tD)) :=
  ⟨_, _, r.rename (s := fun x => p.getD x 0) (t := fun x => p.idxOf x) hp.b hp.b' hp.to hp.fro, rfl⟩
theorem map_iD {α : Type} {l : List α} {g : α → Nat} : (l.map fun y => D.int ((g y : Nat) : Int)) = (l.map g).map iD := by rw [List.map_map]; rfl
theorem lefts_end {a : Addr} {k : Nat} (hn : k ≤ 1000) {f g : Nat → Nat → Nat} {s : SD} (r : Rl k f g) (hs : Dk a s) {mir : Bool} {x3 x5 x6 : Sl} {Q : D → SD → Prop} (q : ∀ d s', IsL k d → Dk a s' → Q d s') : (thn (cCons (cSet 7 (eCall F__law_shuffled (sCons (eVar 0) (sCons (eVar 1) sNil))))
 (cCons (cSet 8 (eLc [9] (.name 9) (wR1 (eVar 1)) qYes (eMeth .index (eVar 7) (eVar 9))))
 (cCons (cRet (eLc [9] (.name 9) (wR1 (eVar 1)) qYes (eBi .tuple (sCons (eLc [10] (.name 10) (wR1 (eVar 1)) qYes (eIdx (eVar 7) (eIdx (eIdx (eVar 4) (eIdx (eVar 8) (eVar 9))) (eIdx (eVar 8) (eVar 10))))) sNil))))
 cNil))) (retQ Q) noX (.nx [.dat (.ref a), .dat (.int k), .dat (.bl mir), x3, .dat (.lst ((mat k f).map tD)), x5, x6, .no, .no, .no, .no]) s) := by
  push_cast [Ev.rn_bind]
  refine shuffled k hs fun p s6 hp hs6 => ?_
  push_cast [Ev.rn_bind]
  walk_at "nd"
  refine lc_map (h := fun x => iD (p.idxOf x)) (fun x hx Q1 q1 => ?_) ?_
  · have hx := List.mem_range.mp hx
    push_cast [place_pm hp hx]
    exact ⟨⟨hp.ok hn, iD_ok⟩, q1⟩
  have eb : (List.range k).map (fun x => iD (p.idxOf x)) = ((List.range k).map fun x => p.idxOf x).map iD := by rw [List.map_map]; rfl
  rw [eb]
  push_cast [Ev.rn_bind]
  walk_at "nd"
  refine lc_map (h := fun x => tD ((List.range k).map fun y => p.getD (f (p.idxOf x) (p.idxOf y)) 0)) (fun x hx Q1 q1 => ?_) ?_
  · have hx := List.mem_range.mp hx
    push_cast [Ev.rn_bind]
    walk_at "nd"
    refine lc_map (h := fun y => iD (p.getD (f (p.idxOf x) (p.idxOf y)) 0)) (fun y hy Q2 q2 => ?_) ?_
    · have hy := List.mem_range.mp hy
      have hb := r.fb _ _ (hp.b' x hx) (hp.b' y hy)
      push_cast [at_row hx, at_row hy, at_mat (hp.b' x hx), at_row (hp.b' y hy), at_list (a := p) (k := f (p.idxOf x) (p.idxOf y)) (by rw [hp.len]; exact hb)]
      exact q2
    · push_cast [Ev.rn_bind]
      rw [show (List.range k).map (fun y => D.int ((p.getD (f (p.idxOf x) (p.idxOf y)) 0 : Nat) : Int)) = ((List.range k).map fun y => p.getD (f (p.idxOf x) (p.idxOf y)) 0).map iD from map_iD]
      exact q1
  · push_cast [Ev.rn_bind]
    have := rename_L r hp
    unfold mat at this
    rw [List.map_map] at this
    exact q _ _ this hs6
theorem law_lefts {a : Addr} {s : SD} (hs : Dk a s) (n : Nat) (h1 : 1 ≤ n) (hn : n ≤ 1000) (Q : D → SD → Prop) (q : ∀ d s', IsL n d → Dk a s' → Q d s') : (F__law_lefts [.ref a, .int (n : Nat)]).rn s Q noX := by
  unfold F__law_lefts b__law_lefts
  push_cast [Ev.rn_bind]
  refine draw 3 hs fun j0 s0 hj0 hs0 => ?_
  push_cast [Ev.rn_bind]
  refine ⟨⟨iD_ok, iD_ok (k := 0)⟩, ?_⟩
  refine draw 3 hs0 fun j1 s1 hj1 hs1 => ?_
  generalize D.eqv (.int (j0 : Nat)) (.int 0) = mir
  push_cast [Ev.rn_bind]
  refine ⟨⟨iD_ok, iD_ok (k := 0)⟩, ?_⟩
  refine rn_weak (Q' := fun p t => ∃ many : Nat, 1 ≤ many ∧ many ≤ n ∧ Dk a t ∧ p = (Rv.dat (D.int (many : Nat)), [.dat (.ref a), .dat (.int n), .no, .no, .no, .no, .no, .no, .no, .no, .no])) ⟨fun e => ?_, fun e => ?_⟩ ?_
  · push_cast [Ev.rn_bind]
    exact ⟨n, h1, Nat.le_refl n, hs1, rfl⟩
  · push_cast [Ev.rn_bind]
    refine draw n hs1 fun j s2 hj hs2 => ?_
    push_cast [Ev.rn_bind]
    exact ⟨1 + j, by omega, by omega, hs2, by rw [show (1 + (j : Int)) = ((1 + j : Nat) : Int) by omega]⟩
  rintro _ t ⟨many, m1, m2, ht, rfl⟩
  push_cast [Ev.rn_bind]
  refine law_base ht many m1 (by omega) _ fun d s2 hd hs2 => ?_
  refine ⟨by decide, ?_⟩
  rw [show rngL 0 2 = (List.range 2).map iD from rngL_nat 2]
  refine for_rn (I := fun i Γ t => Dk a t ∧ ∃ (d : D) (k : Nat) (x3 x5 x6 : Sl), IsL k d ∧ 1 ≤ k ∧ k ≤ n ∧ (i = 2 → k = n) ∧ Γ = [.dat (.ref a), .dat (.int n), .dat (.bl mir), x3, .dat d, x5, x6, .no, .no, .no, .no]) (fun i d Γ t hd hI => ?_) (fun Γ t hI => ?_) _ _ ⟨hs2, d, many, _, _, _, hd, m1, m2, (fun h => (nomatch h)), rfl⟩
  · obtain ⟨ht, d, k, x3, x5, x6, ⟨f, g, r, rfl⟩, k1, k2, k3, rfl⟩ := hI
    obtain ⟨hi, rfl⟩ := rng_at hd
    push_cast [Ev.rn_bind]
    refine ⟨by omega, fun e => ?_, fun e => ?_⟩
    · have e := of_decide_eq_true e
      push_cast [Ev.rn_bind]
      refine ⟨⟨iD_ok, iD_ok (k := 1)⟩, ?_⟩
      refine rn_weak (Q' := fun p t => ∃ m : Nat, 1 ≤ m ∧ k + m ≤ n ∧ (i = 1 → k + m = n) ∧ Dk a t ∧ p = (Rv.dat (D.int (m : Nat)), [.dat (.ref a), .dat (.int n), .dat (.bl mir), x3, .dat (.lst ((mat k f).map tD)), .dat (.int i), x6, .no, .no, .no, .no])) ⟨fun e1 => ?_, fun e1 => ?_⟩ ?_
      · rw [eqv_int] at e1
        have e1 := eq_of_beq e1
        push_cast [Ev.rn_bind]
        refine ⟨by omega, n - k, by omega, by omega, (fun _ => by omega), ht, by rw [show ((n : Int) - (k : Int)) = ((n - k : Nat) : Int) by omega]⟩
      · rw [eqv_int] at e1
        have e1 : ¬ (i : Int) = 1 := fun z => by rw [z] at e1; cases e1
        push_cast [Ev.rn_bind]
        refine ⟨by omega, ?_⟩
        rw [show ((n : Int) - (k : Int)) = ((n - k : Nat) : Int) by omega]
        refine draw (n - k) ht fun j s3 hj hs3 => ?_
        push_cast [Ev.rn_bind]
        exact ⟨1 + j, by omega, by omega, (fun h => absurd h (by omega)), hs3, by rw [show (1 + (j : Int)) = ((1 + j : Nat) : Int) by omega]⟩
      rintro _ t ⟨m, m1, m2, m3, ht, rfl⟩
      push_cast [Ev.rn_bind]
      refine law_base ht m m1 (by omega) _ fun d2 s3 ⟨f2, g2, r2, e2⟩ hs3 => ?_
      subst e2
      push_cast [Ev.rn_bind]
      refine law_kept hs3 k1 (by omega) r _ fun p s4 hp kp hs4 => ?_
      push_cast [Ev.rn_bind]
      refine law_kept hs4 m1 (by omega) r2 _ fun p2 s5 hp2 kp2 hs5 => ?_
      push_cast [Ev.rn_bind]
      refine law_crossed s5 (by omega) (by omega) hp hp2 _ ?_
      push_cast [Ev.rn_bind]
      exact ⟨hs5, _, k + m, _, _, _, cross_L r r2 hp hp2 kp kp2, by omega, m2, (fun h => m3 (by omega)), rfl⟩
    · have e := of_decide_eq_false e
      push_cast [Ev.rn_bind]
      exact ⟨ht, _, k, _, _, _, ⟨f, g, r, rfl⟩, k1, k2, (fun _ => by omega), rfl⟩
  · obtain ⟨ht, d, k, x3, x5, x6, ⟨f, g, r, rfl⟩, k1, k2, k3, rfl⟩ := hI
    obtain rfl : k = n := k3 (by simp)
    push_cast [Ev.rn_bind]
    have tl := fun (f g : Nat → Nat → Nat) (s : SD) (r : Rl k f g) (hs : Dk a s) => lefts_end (f := f) (g := g) (k := k) (mir := mir) (x3 := x3) (x5 := x5) (x6 := x6) hn r hs q
    refine ⟨fun e => ?_, fun e => ?_⟩
    · simp only [to_rn, rn_cons, rn_cSet, rn_bind, rn_eCall, rn_sCons, rn_sNil, rn_eVar, rn_pure, rn_some, rn_nil, fixRv, putRv, opd, frzs, frz, List.set_cons_succ, List.set_cons_zero, List.getElem?_cons_succ, List.getElem?_cons_zero]
      refine law_mirrored t k hn r _ ?_
      rw [thn_nx, rn_nil]
      exact tl _ _ _ r.mirror ht
    · simp only [to_rn, rn_nil]
      exact tl _ _ _ r ht
end K15
/-! from K15P19.lean -/
set_option maxRecDepth 100000
set_option maxHeartbeats 1000000
namespace K15
open PySem Ev Fit
theorem is_integer_run (s : SD) (i : Int) {Q : D → SD → Prop} (q : Q (.bl true) s) : (F_is_integer [.int i]).rn s Q noX := by
  unfold F_is_integer b_is_integer
  push_cast [Ev.rn_bind]
  exact q
theorem is_below_run (s : SD) {k n : Nat} (h : k < n) {Q : D → SD → Prop} (q : Q (.bl true) s) : (F_is_below [.int (k : Nat), .int (n : Nat)]).rn s Q noX := by
  unfold F_is_below b_is_below
  push_cast [Ev.rn_bind]
  refine is_integer_run s _ ?_
  push_cast [decide_eq_true (show (0 : Int) ≤ (k : Int) by omega), decide_eq_true (show (k : Int) < (n : Int) by omega)]
  exact q
theorem is_kinds_run (s : SD) {n : Nat} {a : List Nat} (h : ∀ y ∈ a, y < n) {Q : D → SD → Prop} (q : Q (.bl true) s) : (F_is_kinds [tD a, .int (n : Nat)]).rn s Q noX := by
  unfold F_is_kinds b_is_kinds
  push_cast [Ev.rn_bind]
  refine all_true (I := fun Γ => ∃ x, Γ = [.dat (tD a), .dat (.int (n : Nat)), x]) (fun d hd Γ hI Q1 q1 => ?_) ⟨_, rfl⟩ fun Γ hI => ?_
  · obtain ⟨x, rfl⟩ := hI
    obtain ⟨y, hy, rfl⟩ := List.mem_map.mp hd
    push_cast [Ev.rn_bind]
    refine is_below_run s (h y hy) ?_
    push_cast [Ev.rn_bind]
    exact q1 _ ⟨_, rfl⟩
  · obtain ⟨x, rfl⟩ := hI
    push_cast [Ev.rn_bind]
    exact q
theorem is_size_run (s : SD) {n : Nat} (h1 : 1 ≤ n) (h : n ≤ 8) {Q : D → SD → Prop} (q : Q (.bl true) s) : (F_is_size [.int (n : Nat)]).rn s Q noX := by
  unfold F_is_size b_is_size
  push_cast [Ev.rn_bind]
  refine is_integer_run s _ ?_
  push_cast [decide_eq_true (show (1 : Int) ≤ (n : Int) by omega), decide_eq_true (show (n : Int) ≤ 8 by omega)]
  exact q
theorem tbD_at {n : Nat} {f g : Nat → Nat → Nat} {x : Nat} (h : x < n) : at? ((List.range n).map (tbR n f g)) (x : Int) = some (.tup ((List.range n).map (prD f g x))) := at_nat (fn_at _ h)
theorem tbR_at {n : Nat} {f g : Nat → Nat → Nat} {x y : Nat} (h : y < n) : at? ((List.range n).map (prD f g x)) (y : Int) = some (.tup [.int (f x y : Nat), .int (g x y : Nat)]) := at_nat (fn_at _ h)
theorem is_rows_run (s : SD) {n : Nat} {f g : Nat → Nat → Nat} (h1 : 1 ≤ n) (h : n ≤ 8) {Q : D → SD → Prop} (q : Q (.bl true) s) : (F_is_rows [tbD n f g]).rn s Q noX := by
  unfold F_is_rows b_is_rows tbD
  push_cast [Ev.rn_bind]
  refine ⟨by omega, ?_⟩
  refine is_size_run s h1 h ?_
  push_cast [Ev.rn_bind]
  refine all_true (I := fun Γ => ∃ x, Γ = [.dat (.tup ((List.range n).map (tbR n f g))), x]) (fun d hd Γ hI Q1 q1 => ?_) ⟨_, rfl⟩ fun Γ hI => ?_
  · obtain ⟨x, rfl⟩ := hI
    obtain ⟨y, hy, rfl⟩ := List.mem_map.mp hd
    unfold tbR
    push_cast [Ev.rn_bind]
    refine ⟨by omega, by omega, ⟨iD_ok, iD_ok⟩, ?_⟩
    have e : D.eqv (.int (n : Nat)) (.int (n : Nat)) = true := D.eqv_self iD_ok
    rw [e]
    exact q1 _ ⟨_, rfl⟩
  · obtain ⟨x, rfl⟩ := hI
    push_cast [Ev.rn_bind]
    exact q
theorem is_pair_run (s : SD) {n x y : Nat} (hx : x < n) (hy : y < n) {Q : D → SD → Prop} (q : Q (.bl true) s) : (F_is_pair [.tup [.int (x : Nat), .int (y : Nat)], .int (n : Nat)]).rn s Q noX := by
  unfold F_is_pair b_is_pair
  push_cast [Ev.rn_bind]
  refine is_kinds_run s (a := [x, y]) (fun z hz => ?_) ?_
  · simp only [List.mem_cons, List.not_mem_nil, or_false] at hz
    rcases hz with rfl | rfl <;> assumption
  push_cast [Ev.rn_bind]
  refine ⟨by decide, ⟨rfl, rfl⟩, ?_⟩
  exact q
theorem is_table_run (s : SD) {n : Nat} {f g : Nat → Nat → Nat} (h1 : 1 ≤ n) (h : n ≤ 8) (r : Rl n f g) {Q : D → SD → Prop} (q : Q (.bl true) s) : (F_is_table [tbD n f g]).rn s Q noX := by
  unfold F_is_table b_is_table
  push_cast [Ev.rn_bind]
  refine is_rows_run s h1 h ?_
  unfold tbD
  push_cast [Ev.rn_bind]
  refine all_true (I := fun Γ => ∃ x y, Γ = [.dat (.tup ((List.range n).map (tbR n f g))), x, y]) (fun d hd Γ hI Q1 q1 => ?_) ⟨_, _, rfl⟩ fun Γ hI => ?_
  · obtain ⟨x0, y0, rfl⟩ := hI
    obtain ⟨x, hx, rfl⟩ := List.mem_map.mp hd
    have hx := List.mem_range.mp hx
    unfold tbR
    push_cast [Ev.rn_bind]
    refine ⟨by omega, ?_⟩
    refine all_true (I := fun Γ => ∃ y, Γ = [.dat (.tup ((List.range n).map (tbR n f g))), .dat (.tup ((List.range n).map (prD f g x))), y]) (fun d hd Γ hI Q2 q2 => ?_) ⟨_, rfl⟩ fun Γ hI => ?_
    · obtain ⟨y0, rfl⟩ := hI
      obtain ⟨y, hy, rfl⟩ := List.mem_map.mp hd
      have hy := List.mem_range.mp hy
      unfold prD
      push_cast [Ev.rn_bind]
      refine ⟨by omega, is_pair_run s (r.fb x y hx hy) (r.gb x y hx hy) ?_⟩
      push_cast [Ev.rn_bind]
      exact q2 _ ⟨_, rfl⟩
    · obtain ⟨y0, rfl⟩ := hI
      exact q1 _ ⟨_, _, rfl⟩
  · obtain ⟨x, y, rfl⟩ := hI
    push_cast [Ev.rn_bind]
    exact q
end K15
/-! from K15P20.lean -/
set_option maxRecDepth 100000
set_option maxHeartbeats 1000000
namespace Ev
section
variable {S : Type} {s : S} {E : Xn → S → Prop}
def lpQ (body : D → List Sl → M S Fl) (ds : List D) (Q : Fl → S → Prop) (E : Xn → S → Prop) : Fl → S → Prop
  | .nx Γ, t => (forLoop body ds Γ).rn t Q E
  | .ct Γ, t => (forLoop body ds Γ).rn t Q E
  | .bk Γ, t => Q (.nx Γ) t
  | .rt d, t => Q (.rt d) t
theorem rn_for_nil {body : D → List Sl → M S Fl} {Γ : List Sl} {Q : Fl → S → Prop} : (forLoop body [] Γ).rn s Q E = Q (.nx Γ) s := propext ⟨id, id⟩
theorem rn_for_cons {body : D → List Sl → M S Fl} {d : D} {ds : List D} {Γ : List Sl} {Q : Fl → S → Prop} : (forLoop body (d :: ds) Γ).rn s Q E = (body d Γ).rn s (lpQ body ds Q E) E := by
  unfold M.rn
  show ((body d Γ).bind _).run s Q E = _
  rw [run_bind]
  congr 1
  funext f t
  cases f <;> rfl
theorem lpQ_nx {body : D → List Sl → M S Fl} {ds : List D} {Γ : List Sl} {Q : Fl → S → Prop} : lpQ body ds Q E (.nx Γ) s = (forLoop body ds Γ).rn s Q E := rfl
end
end Ev
namespace K15
open PySem Ev Fit
theorem lefts_of_run (s : SD) {n : Nat} (hn : n ≤ 1000) {f g : Nat → Nat → Nat} {Q : D → SD → Prop} (q : Q (.tup ((mat n f).map tD)) s) : (F_lefts_of [tbD n f g]).rn s Q noX := by
  unfold F_lefts_of b_lefts_of tbD
  push_cast [Ev.rn_bind]
  walk_at "nd"
  refine lc_map (h := fun x => tD ((List.range n).map (f x))) (fun x hx Q1 q1 => ?_) ?_
  · unfold tbR
    push_cast [Ev.rn_bind]
    walk_at "nd"
    refine lc_map (h := fun y => .int (f x y : Nat)) (fun y hy Q2 q2 => ?_) ?_
    · unfold prD
      push_cast [Ev.rn_bind]
      have e : at? [D.int (f x y : Nat), D.int (g x y : Nat)] 0 = some (.int (f x y : Nat)) := rfl
      push_cast [e]
      exact q2
    · push_cast [Ev.rn_bind]
      rw [map_iD]
      exact q1
  · push_cast [Ev.rn_bind]
    unfold mat at q
    rw [List.map_map] at q
    exact q
theorem twice_run (s : SD) {n : Nat} (hn : n ≤ 1000) {f g : Nat → Nat → Nat} (r : Rl n f g) {x y : Nat} (hx : x < n) (hy : y < n) {Q : D → SD → Prop} (q : Q (.bl false) s) : (F_is_twice_fault [tbD n f g, .int (x : Nat), .int (y : Nat)]).rn s Q noX := by
  unfold F_is_twice_fault b_is_twice_fault tbD
  have hu := r.fb x y hx hy
  have hv := r.gb x y hx hy
  push_cast [tbD_at hx, tbR_at hy]
  push_cast [tbD_at hu, tbR_at hv, r.fi x y hx hy, r.gi x y hx hy]
  have ok : (D.tup [.int (x : Nat), .int (y : Nat)]).ok = true := tD_ok (a := [x, y]) fun z hz => by
    simp only [List.mem_cons, List.not_mem_nil, or_false] at hz
    rcases hz with rfl | rfl <;> omega
  refine ⟨by decide, ⟨ok, ok⟩, ?_⟩
  rw [D.eqv_self ok]
  exact q
theorem left_run (s : SD) {n : Nat} (hn : n ≤ 1000) {f g : Nat → Nat → Nat} (r : Rl n f g) {x y z : Nat} (hx : x < n) (hy : y < n) (hz : z < n) {Q : D → SD → Prop} (q : Q (.bl false) s) : (F_is_left_fault [tbD n f g, .int (x : Nat), .int (y : Nat), .int (z : Nat)]).rn s Q noX := by
  unfold F_is_left_fault b_is_left_fault tbD
  push_cast [Ev.rn_bind]
  refine ⟨fun e => ?_, fun e => ?_⟩
  · have e := of_decide_eq_true e
    have h0 : ∀ y, at? [D.int (f x y : Nat), D.int (g x y : Nat)] 0 = some (.int (f x y : Nat)) := fun _ => rfl
    push_cast [tbD_at hx, tbR_at hy, tbR_at hz, h0]
    have := r.fb x y hx hy
    have := r.fb x z hx hz
    refine ⟨⟨iD_ok, iD_ok⟩, ?_⟩
    have ne : (D.int (f x y : Nat)).eqv (D.int (f x z : Nat)) = false := by
      refine (iDeq _ _).trans (beq_eq_false_iff_ne.mpr fun h => ?_)
      have := r.li x y z hx hy hz h
      omega
    rw [ne]
    exact q
  · push_cast [Ev.rn_bind]
    exact q
theorem right_run (s : SD) {n : Nat} (hn : n ≤ 1000) {f g : Nat → Nat → Nat} (r : Rl n f g) {y x z : Nat} (hx : x < n) (hy : y < n) (hz : z < n) {Q : D → SD → Prop} (q : Q (.bl false) s) : (F_is_right_fault [tbD n f g, .int (y : Nat), .int (x : Nat), .int (z : Nat)]).rn s Q noX := by
  unfold F_is_right_fault b_is_right_fault tbD
  push_cast [Ev.rn_bind]
  refine ⟨fun e => ?_, fun e => ?_⟩
  · have e := of_decide_eq_true e
    have h0 : ∀ x, at? [D.int (f x y : Nat), D.int (g x y : Nat)] 1 = some (.int (g x y : Nat)) := fun _ => rfl
    push_cast [tbD_at hx, tbD_at hz, tbR_at hy, h0]
    have := r.gb x y hx hy
    have := r.gb z y hz hy
    refine ⟨⟨iD_ok, iD_ok⟩, ?_⟩
    have ne : (D.int (g x y : Nat)).eqv (D.int (g z y : Nat)) = false := by
      refine (iDeq _ _).trans (beq_eq_false_iff_ne.mpr fun h => ?_)
      have := r.ri x y z hx hy hz h
      omega
    rw [ne]
    exact q
  · push_cast [Ev.rn_bind]
    exact q
theorem met0 (s : SD) {n : Nat} {f g : Nat → Nat → Nat} {x y z : Nat} (hx : x < n) (hy : y < n) {Q : D → SD → Prop} (q : Q (.tup [.int (f x y : Nat), .int (g x y : Nat), .int (z : Nat)]) s) : (F_met_row [tbD n f g, .tup [.int (x : Nat), .int (y : Nat), .int (z : Nat)], .int 0]).rn s Q noX := by
  unfold F_met_row b_met_row tbD
  have c1 : cut [D.int (x : Nat), .int (y : Nat), .int (z : Nat)] none (some 0) = [] := rfl
  have c2 : cut [D.int (x : Nat), .int (y : Nat), .int (z : Nat)] (some (0 + 2)) none = [.int (z : Nat)] := rfl
  have a1 : at? [D.int (x : Nat), .int (y : Nat), .int (z : Nat)] 0 = some (.int (x : Nat)) := rfl
  have a2 : at? [D.int (x : Nat), .int (y : Nat), .int (z : Nat)] (0 + 1) = some (.int (y : Nat)) := rfl
  push_cast [c1, c2, a1, a2, tbD_at hx, tbR_at hy]
  refine ⟨by decide, by decide, q⟩
theorem met1 (s : SD) {n : Nat} {f g : Nat → Nat → Nat} {x y z : Nat} (hy : y < n) (hz : z < n) {Q : D → SD → Prop} (q : Q (.tup [.int (x : Nat), .int (f y z : Nat), .int (g y z : Nat)]) s) : (F_met_row [tbD n f g, .tup [.int (x : Nat), .int (y : Nat), .int (z : Nat)], .int 1]).rn s Q noX := by
  unfold F_met_row b_met_row tbD
  have c1 : cut [D.int (x : Nat), .int (y : Nat), .int (z : Nat)] none (some 1) = [.int (x : Nat)] := rfl
  have c2 : cut [D.int (x : Nat), .int (y : Nat), .int (z : Nat)] (some (1 + 2)) none = [] := rfl
  have a1 : at? [D.int (x : Nat), .int (y : Nat), .int (z : Nat)] 1 = some (.int (y : Nat)) := rfl
  have a2 : at? [D.int (x : Nat), .int (y : Nat), .int (z : Nat)] (1 + 1) = some (.int (z : Nat)) := rfl
  push_cast [c1, c2, a1, a2, tbD_at hy, tbR_at hz]
  refine ⟨by decide, by decide, q⟩
theorem three_run (s : SD) {n : Nat} (hn : n ≤ 1000) {f g : Nat → Nat → Nat} (r : Rl n f g) {x y z : Nat} (hx : x < n) (hy : y < n) (hz : z < n) {Q : D → SD → Prop} (q : Q (.bl false) s) : (F_is_three_fault [tbD n f g, .int (x : Nat), .int (y : Nat), .int (z : Nat)]).rn s Q noX := by
  unfold F_is_three_fault b_is_three_fault
  have ha := r.fb x y hx hy
  have hb := r.gb x y hx hy
  have hbz := r.fb _ z hb hz
  have hyz := r.fb y z hy hz
  have hw := r.gb y z hy hz
  have hu := r.gb x _ hx hyz
  push_cast [Ev.rn_bind]
  refine ⟨by decide, by decide, by decide, ?_⟩
  push_cast [rn_for_cons]
  refine met0 s hx hy ?_
  push_cast [lpQ_nx, rn_for_cons]
  refine met1 s hb hz ?_
  push_cast [lpQ_nx, rn_for_cons]
  refine met0 s ha hbz ?_
  push_cast [lpQ_nx, rn_for_cons, rn_for_nil]
  refine ⟨by decide, ?_⟩
  refine met1 s hy hz ?_
  push_cast [lpQ_nx, rn_for_cons]
  refine met0 s hx hyz ?_
  push_cast [lpQ_nx, rn_for_cons]
  refine met1 s hu hw ?_
  push_cast [lpQ_nx, rn_for_cons, rn_for_nil]
  obtain ⟨e1, e2, e3⟩ := r.three hx hy hz
  rw [e1, e2, e3]
  have := r.fb x _ hx hyz
  have := r.fb _ _ hu hw
  have := r.gb _ _ hu hw
  have ok : (D.tup [.int (f x (f y z) : Nat), .int (f (g x (f y z)) (g y z) : Nat), .int (g (g x (f y z)) (g y z) : Nat)]).ok = true := tD_ok (a := [f x (f y z), f (g x (f y z)) (g y z), g (g x (f y z)) (g y z)]) fun w hw => by
    simp only [List.mem_cons, List.not_mem_nil, or_false] at hw
    rcases hw with rfl | rfl | rfl <;> omega
  refine ⟨⟨ok, ok⟩, ?_⟩
  rw [D.eqv_self ok]
  exact q
end K15
/-! from K15P21.lean -/
set_option maxRecDepth 100000
set_option maxHeartbeats 1000000
namespace K15
open PySem Ev Fit
/-- the row of an order -/
def wrR (L : List (List Nat)) : List Nat → List Nat → List Nat
  | [], _ => []
  | y :: r, t => t.idxOf y :: wrR L r (aft t (L.getD (t.idxOf y) []))
def wrT (L : List (List Nat)) : List Nat → List Nat → List Nat
  | [], t => t
  | y :: r, t => wrT L r (aft t (L.getD (t.idxOf y) []))
theorem wrR_snoc (L : List (List Nat)) (y : Nat) : ∀ (r t : List Nat), wrR L (r ++ [y]) t = wrR L r t ++ [(wrT L r t).idxOf y]
  | [], t => rfl
  | z :: r, t => congrArg (_ :: ·) (wrR_snoc L y r _)
theorem wrT_snoc (L : List (List Nat)) (y : Nat) : ∀ (r t : List Nat), wrT L (r ++ [y]) t = aft (wrT L r t) (L.getD ((wrT L r t).idxOf y) [])
  | [], t => rfl
  | z :: r, t => wrT_snoc L y r _
theorem wrR_len (L : List (List Nat)) : ∀ r t : List Nat, (wrR L r t).length = r.length
  | [], _ => rfl
  | _ :: r, _ => congrArg (· + 1) (wrR_len L r _)
theorem rdO_len (L : List (List Nat)) : ∀ r t : List Nat, (rdO L r t).length = r.length
  | [], _ => rfl
  | _ :: r, _ => congrArg (· + 1) (rdO_len L r _)
section
variable {n : Nat} {f g : Nat → Nat → Nat} (r : Rl n f g)
include r
theorem step_pm {t : List Nat} (ht : Pm n t) {x : Nat} (hx : x < n) : Pm n (aft t ((mat n f).getD x [])) := by
  rw [mat_getD hx]
  exact ht.aft (r.row hx)
theorem rdT_pm : ∀ (row t : List Nat), (∀ x ∈ row, x < n) → Pm n t → Pm n (rdT (mat n f) row t)
  | [], t, _, ht => ht
  | x :: row, t, h, ht => rdT_pm row _ (fun y hy => h y (.tail _ hy)) (step_pm r ht (h x (.head _)))
theorem rdO_lt : ∀ (row t : List Nat), (∀ x ∈ row, x < n) → Pm n t → ∀ y ∈ rdO (mat n f) row t, y < n
  | [], t, _, ht, y, hy => nomatch hy
  | x :: row, t, h, ht, y, hy => by
    cases hy with
    | head => exact ht.b x (h x (.head _))
    | tail _ hy => exact rdO_lt row _ (fun y hy => h y (.tail _ hy)) (step_pm r ht (h x (.head _))) y hy
theorem wrT_pm : ∀ (o t : List Nat), (∀ x ∈ o, x < n) → Pm n t → Pm n (wrT (mat n f) o t)
  | [], t, _, ht => ht
  | y :: o, t, h, ht => wrT_pm o _ (fun y hy => h y (.tail _ hy)) (step_pm r ht (ht.b' y (h y (.head _))))
theorem wrR_lt : ∀ (o t : List Nat), (∀ x ∈ o, x < n) → Pm n t → ∀ y ∈ wrR (mat n f) o t, y < n
  | [], t, _, ht, y, hy => nomatch hy
  | x :: o, t, h, ht, y, hy => by
    cases hy with
    | head => exact ht.b' x (h x (.head _))
    | tail _ hy => exact wrR_lt o _ (fun y hy => h y (.tail _ hy)) (step_pm r ht (ht.b' x (h x (.head _)))) y hy
theorem wr_rd : ∀ (row t : List Nat), (∀ x ∈ row, x < n) → Pm n t → wrR (mat n f) (rdO (mat n f) row t) t = row
  | [], t, _, ht => rfl
  | x :: row, t, h, ht => by
    have hx := h x (.head _)
    rw [rdO, wrR, ht.fro x hx, wr_rd row _ (fun y hy => h y (.tail _ hy)) (step_pm r ht hx)]
theorem rd_wr : ∀ (o t : List Nat), (∀ x ∈ o, x < n) → Pm n t → rdO (mat n f) (wrR (mat n f) o t) t = o
  | [], t, _, ht => rfl
  | y :: o, t, h, ht => by
    have hy := h y (.head _)
    rw [wrR, rdO, ht.to y hy, rd_wr o _ (fun y hy => h y (.tail _ hy)) (step_pm r ht (ht.b' y hy))]
end
theorem rdT_app (L : List (List Nat)) (a b t : List Nat) : rdT L (a ++ b) t = rdT L b (rdT L a t) := by unfold rdT; rw [List.foldl_append]
theorem rdO_app (L : List (List Nat)) : ∀ a b t : List Nat, rdO L (a ++ b) t = rdO L a t ++ rdO L b (rdT L a t)
  | [], b, t => rfl
  | x :: a, b, t => congrArg (_ :: ·) (rdO_app L a b _)
theorem aft_range {n : Nat} {t : List Nat} (h : t.length = n) : aft t (List.range n) = t := by
  unfold aft
  refine List.ext_getElem (by simp [h]) fun i h1 h2 => ?_
  rw [List.getElem_map, List.getElem_range, getD_at' h2]
theorem aft_get {a b : List Nat} {x : Nat} (hx : x < b.length) : (aft a b).getD x 0 = a.getD (b.getD x 0) 0 := by
  unfold aft
  rw [List.getD_eq_getElem?_getD, List.getElem?_map, List.getElem?_eq_getElem hx, getD_at' hx]
  rfl
theorem aft_aft {a b c : List Nat} (h : ∀ y ∈ c, y < b.length) : aft (aft a b) c = aft a (aft b c) := by
  unfold aft
  rw [List.map_map]
  refine List.map_congr_left fun y hy => ?_
  exact aft_get (h y hy)
theorem rd_shift {n : Nat} {L : List (List Nat)} (hL : TL n L) : ∀ (b T u : List Nat), (∀ x ∈ b, x < n) → Tn n u → rdO L b (aft T u) = (rdO L b u).map (fun y => T.getD y 0) ∧ rdT L b (aft T u) = aft T (rdT L b u)
  | [], T, u, _, _ => ⟨rfl, rfl⟩
  | x :: b, T, u, h, hu => by
    have hx := h x (.head _)
    have hl := hL.at hx
    obtain ⟨e1, e2⟩ := rd_shift hL b T (aft u (L.getD x [])) (fun y hy => h y (.tail _ hy)) (hu.aft hl)
    have ea : aft (aft T u) (L.getD x []) = aft T (aft u (L.getD x [])) := aft_aft fun y hy => by
      rw [hu.1]; exact hl.2 y hy
    refine ⟨?_, ?_⟩
    · rw [rdO, rdO, List.map_cons, ea, e1, aft_get (by rw [hu.1]; exact hx)]
    · show rdT L b (aft (aft T u) (L.getD x [])) = _
      rw [ea, e2]; rfl
theorem mat_TL {n : Nat} {f g : Nat → Nat → Nat} (r : Rl n f g) : TL n (mat n f) := ⟨mat_length, fun t ht => by
  obtain ⟨x, hx, rfl⟩ := List.mem_map.mp ht
  exact (r.row (List.mem_range.mp hx)).tn⟩
/-- the heap of an order -/
def hpR (n : Nat) (o : List Nat) : List Nat := (List.range n).map fun y => o.count y
theorem hpR_snoc {n : Nat} {o : List Nat} {y : Nat} (hy : y < n) : hpR n (o ++ [y]) = (hpR n o).set y (o.count y + 1) := by
  unfold hpR
  refine List.ext_getElem (by simp) fun i h1 h2 => ?_
  rw [List.getElem_set, List.getElem_map, List.getElem_map, List.getElem_range, List.count_append, List.count_singleton]
  by_cases e : y = i
  · subst e; simp
  · simp [e]
theorem count_iD (o : List Nat) (y : Nat) : (o.map iD).countP (fun z => z.eqv (.int (y : Nat))) = o.count y := by
  rw [List.countP_map]
  unfold List.count
  congr 1
  funext z
  exact iDeq z y
end K15
/-! from K15P22.lean -/
set_option maxRecDepth 100000
set_option maxHeartbeats 1000000
namespace K15
open PySem Ev Fit
theorem words {n : Nat} {f g : Nat → Nat → Nat} (hn : n ≤ 1000) (r : Rl n f g) {d : D} (h : d ∈ [D.str "left", D.str "right", D.str "three"]) : ∃ z k, d = .str z ∧ t_FAULTS.lookup z = some (.fn k) ∧ ar_v k = 4 ∧ ∀ (s : SD) (x y z : Nat) (Q : D → SD → Prop), x < n → y < n → z < n → Q (.bl false) s → (Fs_v k [tbD n f g, .int (x : Nat), .int (y : Nat), .int (z : Nat)]).rn s Q noX := by
  simp only [List.mem_cons, List.not_mem_nil, or_false] at h
  rcases h with rfl | rfl | rfl
  · exact ⟨_, 0, rfl, rfl, rfl, fun s x y z Q hx hy hz q => left_run s hn r hx hy hz q⟩
  · exact ⟨_, 1, rfl, rfl, rfl, fun s x y z Q hx hy hz q => right_run s hn r hy hx hz q⟩
  · exact ⟨_, 2, rfl, rfl, rfl, fun s x y z Q hx hy hz q => three_run s hn r hx hy hz q⟩
theorem rng_mem {n i : Nat} {d : D} (h : ((List.range n).map iD)[i]? = some d) : ∃ x, x < n ∧ d = iD x := by
  exact ⟨i, rng_at h⟩
theorem fault_run (s : SD) {n : Nat} (hn : n ≤ 1000) {f g : Nat → Nat → Nat} (r : Rl n f g) {Q : D → SD → Prop} (q : Q .non s) : (F_fault_of [tbD n f g]).rn s Q noX := by
  unfold F_fault_of b_fault_of
  have e0 : tbD n f g = .tup ((List.range n).map (tbR n f g)) := rfl
  push_cast [e0]
  simp only [← e0, if_pos (show -1000000 ≤ (0 : Int) ∧ (0 : Int) ≤ 1000000 ∧ -1000000 ≤ (n : Int) ∧ (n : Int) ≤ 1000000 by omega), rn_some]
  refine ⟨by omega, by omega, ?_⟩
  refine for_rn (I := fun i Γ t => t = s ∧ ∃ x2 x3, Γ = [.dat (tbD n f g), .dat (.rng 0 (n : Int)), x2, x3, .no, .no, .no]) (fun i d Γ t hd hI => ?_) (fun Γ t hI => ?_) _ _ ⟨rfl, _, _, rfl⟩
  · obtain ⟨rfl, x2, x3, rfl⟩ := hI
    obtain ⟨x, hx, rfl⟩ := rng_mem hd
    push_cast [Ev.rn_bind]
    simp only [if_pos (show -1000000 ≤ (0 : Int) ∧ (0 : Int) ≤ 1000000 ∧ -1000000 ≤ (n : Int) ∧ (n : Int) ≤ 1000000 by omega), rn_some]
    refine for_rn (I := fun i Γ u => u = t ∧ ∃ x3, Γ = [.dat (tbD n f g), .dat (.rng 0 (n : Int)), .dat (iD x), x3, .no, .no, .no]) (fun i d Γ u hd hI => ?_) (fun Γ u hI => ?_) _ _ ⟨rfl, _, rfl⟩
    · obtain ⟨rfl, x3, rfl⟩ := hI
      obtain ⟨y, hy, rfl⟩ := rng_mem hd
      push_cast [Ev.rn_bind]
      refine twice_run u hn r hx hy ?_
      push_cast [Ev.rn_bind]
      exact ⟨_, rfl⟩
    · obtain ⟨rfl, x3, rfl⟩ := hI
      push_cast [Ev.rn_bind]
      exact ⟨_, _, rfl⟩
  obtain ⟨rfl, x2, x3, rfl⟩ := hI
  push_cast [Ev.rn_bind]
  refine ⟨by decide, ?_⟩
  refine for_rn (I := fun i Γ u => u = t ∧ ∃ x2 x3 x4 x5 x6, Γ = [.dat (tbD n f g), .dat (.rng 0 (n : Int)), x2, x3, x4, x5, x6]) (fun i d Γ u hd hI => ?_) (fun Γ u hI => ?_) _ _ ⟨rfl, _, _, _, _, _, rfl⟩
  · obtain ⟨rfl, x2, x3, x4, x5, x6, rfl⟩ := hI
    obtain ⟨w, k, rfl, hl, har, hF⟩ := words hn r (List.mem_of_getElem? hd)
    push_cast [hl]
    simp only [if_pos (show -1000000 ≤ (0 : Int) ∧ (0 : Int) ≤ 1000000 ∧ -1000000 ≤ (n : Int) ∧ (n : Int) ≤ 1000000 by omega), rn_some]
    refine for_rn (I := fun i Γ t => t = u ∧ ∃ x2 x3 x6, Γ = [.dat (tbD n f g), .dat (.rng 0 (n : Int)), x2, x3, .dat (.str w), .dat (.fn k), x6]) (fun i d Γ t hd hI => ?_) (fun Γ t hI => ?_) _ _ ⟨rfl, _, _, _, rfl⟩
    · obtain ⟨rfl, x2, x3, x6, rfl⟩ := hI
      obtain ⟨x, hx, rfl⟩ := rng_mem hd
      push_cast [Ev.rn_bind]
      simp only [if_pos (show -1000000 ≤ (0 : Int) ∧ (0 : Int) ≤ 1000000 ∧ -1000000 ≤ (n : Int) ∧ (n : Int) ≤ 1000000 by omega), rn_some]
      refine for_rn (I := fun i Γ u => u = t ∧ ∃ x3 x6, Γ = [.dat (tbD n f g), .dat (.rng 0 (n : Int)), .dat (iD x), x3, .dat (.str w), .dat (.fn k), x6]) (fun i d Γ u hd hI => ?_) (fun Γ u hI => ?_) _ _ ⟨rfl, _, _, rfl⟩
      · obtain ⟨rfl, x3, x6, rfl⟩ := hI
        obtain ⟨y, hy, rfl⟩ := rng_mem hd
        push_cast [Ev.rn_bind]
        simp only [if_pos (show -1000000 ≤ (0 : Int) ∧ (0 : Int) ≤ 1000000 ∧ -1000000 ≤ (n : Int) ∧ (n : Int) ≤ 1000000 by omega), rn_some]
        refine for_rn (I := fun i Γ t => t = u ∧ ∃ x6, Γ = [.dat (tbD n f g), .dat (.rng 0 (n : Int)), .dat (iD x), .dat (iD y), .dat (.str w), .dat (.fn k), x6]) (fun i d Γ t hd hI => ?_) (fun Γ t hI => ?_) _ _ ⟨rfl, _, rfl⟩
        · obtain ⟨rfl, x6, rfl⟩ := hI
          obtain ⟨z, hz, rfl⟩ := rng_mem hd
          push_cast [har]
          refine hF t x y z _ hx hy hz ?_
          push_cast [Ev.rn_bind]
          exact ⟨_, rfl⟩
        · obtain ⟨rfl, x6, rfl⟩ := hI
          push_cast [Ev.rn_bind]
          exact ⟨_, _, rfl⟩
      · obtain ⟨rfl, x3, x6, rfl⟩ := hI
        push_cast [Ev.rn_bind]
        exact ⟨_, _, _, rfl⟩
    · obtain ⟨rfl, x2, x3, x6, rfl⟩ := hI
      push_cast [Ev.rn_bind]
      exact ⟨_, _, _, _, _, rfl⟩
  · obtain ⟨rfl, x2, x3, x4, x5, x6, rfl⟩ := hI
    push_cast [Ev.rn_bind]
    exact q
theorem is_rule_run (s : SD) {n : Nat} (h1 : 1 ≤ n) (hn : n ≤ 8) {f g : Nat → Nat → Nat} (r : Rl n f g) {Q : D → SD → Prop} (q : Q (.bl true) s) : (F_is_rule [tbD n f g]).rn s Q noX := by
  unfold F_is_rule b_is_rule
  push_cast [Ev.rn_bind]
  refine is_table_run s h1 hn r ?_
  push_cast [Ev.rn_bind]
  refine fault_run s (by omega) r ?_
  push_cast [Ev.rn_bind]
  exact q
theorem need_rule_run (s : SD) {n : Nat} (h1 : 1 ≤ n) (hn : n ≤ 8) {f g : Nat → Nat → Nat} (r : Rl n f g) {Q : D → SD → Prop} (q : Q .non s) : (F_need_rule [tbD n f g]).rn s Q noX := by
  unfold F_need_rule b_need_rule
  push_cast [Ev.rn_bind]
  refine is_rule_run s h1 hn r ?_
  push_cast [Ev.rn_bind]
  exact q
theorem need_row_run (s : SD) {n : Nat} (hn : n ≤ 1000) {f g : Nat → Nat → Nat} {a : List Nat} (h : ∀ y ∈ a, y < n) {Q : D → SD → Prop} (q : Q .non s) : (F_need_row [tbD n f g, tD a]).rn s Q noX := by
  unfold F_need_row b_need_row tbD
  push_cast [Ev.rn_bind]
  refine ⟨by omega, is_kinds_run s h ?_⟩
  push_cast [Ev.rn_bind]
  exact q
end K15
/-! from K15P23.lean -/
set_option maxRecDepth 100000
set_option maxHeartbeats 1000000
namespace K15
open PySem Ev Fit
abbrev rg (n : Nat) : List Nat := List.range n
theorem nat_at {row : List Nat} {i : Nat} {d : D} (h : (row.map iD)[i]? = some d) : ∃ hi : i < row.length, d = iD row[i] ∧ row.take (i + 1) = row.take i ++ [row[i]] := by
  have hi : i < row.length := by
    have := (List.getElem?_eq_some_iff.mp h).1
    simpa using this
  rw [List.getElem?_map, List.getElem?_eq_getElem hi] at h
  exact ⟨hi, (Option.some.inj h).symm, by rw [List.take_succ, List.getElem?_eq_getElem hi]; rfl⟩
section
variable {n : Nat} {f g : Nat → Nat → Nat}
theorem after_rn (s : SD) {a b : List Nat} {Q : D → SD → Prop} (hb : ∀ y ∈ b, y < a.length) (hl : b.length ≤ 1000000) (q : Q (tD (aft a b)) s) : (F_after [tD a, tD b]).rn s Q noX := law_afterN s a b Q hb hl q
theorem order_by_run (s : SD) (hn : n ≤ 1000) (r : Rl n f g) {row : List Nat} (hr : ∀ x ∈ row, x < n) (hl : row.length ≤ 1000) {Q : D → SD → Prop} (q : Q (.tup [tD (rdO (mat n f) row (rg n)), tD (rdT (mat n f) row (rg n))]) s) :
    (F_order_by [.tup ((mat n f).map tD), tD row]).rn s Q noX := by
  unfold F_order_by b_order_by
  push_cast [Ev.rn_bind]
  walk_at "nq"
  refine identity_run s n hn _ ?_
  push_cast [Ev.rn_bind]
  refine for_rn (I := fun i Γ t => t = s ∧ ∃ x : Sl, Γ = [.dat (.tup ((mat n f).map tD)), .dat (tD row), .own (.lst ((rdO (mat n f) (row.take i) (rg n)).map iD)), .dat (tD (rdT (mat n f) (row.take i) (rg n))), x]) (fun i d Γ t hd hI => ?_) (fun Γ t hI => ?_) _ _ ⟨rfl, _, rfl⟩
  · obtain ⟨rfl, x0, rfl⟩ := hI
    obtain ⟨hi, rfl, et⟩ := nat_at hd
    have hx : row[i] < n := hr _ (List.getElem_mem hi)
    have hT := rdT_pm r (row.take i) (rg n) (fun y hy => hr y (List.mem_of_mem_take hy)) (Pm.range n)
    push_cast [at_list (a := rdT (mat n f) (row.take i) (rg n)) (k := row[i]) (by rw [hT.len]; exact hx), at_mat hx, rdO_len]
    refine ⟨by simp; omega, ?_⟩
    refine after_rn t (b := (List.range n).map (f row[i])) (fun y hy => ?_) (by walk_at "om") ?_
    · rw [hT.len]; exact (r.row hx).lt hy
    push_cast [Ev.rn_bind]
    refine ⟨.dat (iD row[i]), ?_⟩
    rw [et, rdT_snoc, rdO_snoc, List.map_append, mat_getD hx]
    rfl
  · obtain ⟨rfl, x0, rfl⟩ := hI
    simp only [List.length_map, List.take_length]
    push_cast [Ev.rn_bind]
    exact ⟨by decide, q⟩
theorem order_of_run (s : SD) (h1 : 1 ≤ n) (hn : n ≤ 8) (r : Rl n f g) {row : List Nat} (hr : ∀ x ∈ row, x < n) (hl : row.length ≤ 1000) {Q : D → SD → Prop} (q : Q (tD (rdO (mat n f) row (rg n))) s) : (F_order_of [tbD n f g, tD row]).rn s Q noX := by
  unfold F_order_of b_order_of
  push_cast [Ev.rn_bind]
  refine need_rule_run s h1 hn r ?_
  push_cast [Ev.rn_bind]
  refine need_row_run s (by omega) hr ?_
  push_cast [Ev.rn_bind]
  refine lefts_of_run s (by omega) ?_
  push_cast [Ev.rn_bind]
  refine order_by_run s (by omega) r hr hl ?_
  have e : ∀ a b : D, at? [a, b] 0 = some a := fun _ _ => rfl
  push_cast [e]
  exact q
theorem rep0 (n : Nat) : (List.replicate n [D.int 0]).flatten = (hpR n []).map iD := by
  unfold hpR
  rw [List.map_map]
  have : ((iD ∘ fun y : Nat => List.count y []) : Nat → D) = fun _ => D.int 0 := by
    funext y; rfl
  rw [this]
  refine List.ext_getElem? fun i => ?_
  have e : (List.replicate n [D.int 0]).flatten = List.replicate n (D.int 0) := by
    induction n with
    | zero => rfl
    | succ n ih => rw [List.replicate_succ, List.flatten_cons, ih, List.replicate_succ]; rfl
  rw [e, List.getElem?_map]
  by_cases h : i < n
  · rw [List.getElem?_replicate, if_pos h, List.getElem?_range h]; rfl
  · rw [List.getElem?_replicate, if_neg h, List.getElem?_eq_none (by simpa using h)]; rfl
theorem heap_by_run (s : SD) (hn : n ≤ 1000) {o : List Nat} (ho : ∀ x ∈ o, x < n) (hl : o.length ≤ 1000) {Q : D → SD → Prop} (q : Q (tD (hpR n o)) s) : (F_heap_by [.int (n : Nat), tD o]).rn s Q noX := by
  unfold F_heap_by b_heap_by
  push_cast [Int.toNat_natCast, rep0]
  refine ⟨by decide, by omega, ?_⟩
  refine for_rn (I := fun i Γ t => t = s ∧ ∃ x : Sl, Γ = [.dat (.int (n : Nat)), .dat (tD o), .own (.lst ((hpR n (o.take i)).map iD)), x]) (fun i d Γ t hd hI => ?_) (fun Γ t hI => ?_) _ _ ⟨rfl, _, rfl⟩
  · obtain ⟨rfl, x0, rfl⟩ := hI
    obtain ⟨hi, rfl, et⟩ := nat_at hd
    have hx : o[i] < n := ho _ (List.getElem_mem hi)
    have hlen : ∀ a, (hpR n a).length = n := fun a => by unfold hpR; simp
    have ge : ((hpR n (o.take i)).map iD)[o[i]]? = some (.int (((o.take i).count o[i] : Nat) : Int)) := by
      unfold hpR
      rw [List.getElem?_map, fn_at _ hx]; rfl
    push_cast [hlen, Int.toNat_natCast, ge]
    refine ⟨by omega, by omega, .dat (iD o[i]), ?_⟩
    rw [et, hpR_snoc hx, List.map_set]
    rfl
  · obtain ⟨rfl, x0, rfl⟩ := hI
    simp only [List.length_map, List.take_length]
    push_cast [Ev.rn_bind]
    exact q
theorem heap_of_run (s : SD) (h1 : 1 ≤ n) (hn : n ≤ 8) (r : Rl n f g) {row : List Nat} (hr : ∀ x ∈ row, x < n) (hl : row.length ≤ 1000) {Q : D → SD → Prop} (q : Q (tD (hpR n (rdO (mat n f) row (rg n)))) s) : (F_heap_of [tbD n f g, tD row]).rn s Q noX := by
  unfold F_heap_of b_heap_of
  push_cast [Ev.rn_bind]
  refine order_of_run s h1 hn r hr hl ?_
  have e0 : tbD n f g = .tup ((List.range n).map (tbR n f g)) := rfl
  push_cast [e0]
  refine ⟨by omega, heap_by_run s (by omega) (rdO_lt r row _ hr (Pm.range n)) (by rw [rdO_len]; exact hl) ?_⟩
  push_cast [Ev.rn_bind]
  exact q
theorem law_written_run (s : SD) (hn : n ≤ 1000) (r : Rl n f g) {o : List Nat} (ho : ∀ x ∈ o, x < n) (hl : o.length ≤ 1000) {Q : D → SD → Prop} (q : Q (tD (wrR (mat n f) o (rg n))) s) :
    (F__law_written [.lst ((mat n f).map tD), tD o]).rn s Q noX := by
  unfold F__law_written b__law_written
  push_cast [Ev.rn_bind]
  walk_at "nq"
  refine for_rn (I := fun i Γ t => t = s ∧ ∃ x y : Sl, Γ = [.dat (.lst ((mat n f).map tD)), .dat (tD o), .dat (tD (wrT (mat n f) (o.take i) (rg n))), .own (.lst ((wrR (mat n f) (o.take i) (rg n)).map iD)), x, y]) (fun i d Γ t hd hI => ?_) (fun Γ t hI => ?_) _ _ ⟨rfl, _, _, rfl⟩
  · obtain ⟨rfl, x0, y0, rfl⟩ := hI
    obtain ⟨hi, rfl, et⟩ := nat_at hd
    have hx : o[i] < n := ho _ (List.getElem_mem hi)
    have hT := wrT_pm r (o.take i) (rg n) (fun y hy => ho y (List.mem_of_mem_take hy)) (Pm.range n)
    have hb := hT.b' _ hx
    push_cast [place_pm hT hx, at_mat hb, wrR_len]
    refine ⟨⟨hT.ok hn, iD_ok⟩, by simp; omega, ?_⟩
    refine law_afterN t _ ((List.range n).map (f _)) _ (fun y hy => ?_) (by walk_at "om") ?_
    · rw [hT.len]; exact (r.row hb).lt hy
    push_cast [Ev.rn_bind]
    refine ⟨.dat (iD o[i]), .dat (iD ((wrT (mat n f) (o.take i) (rg n)).idxOf o[i])), ?_⟩
    rw [et, wrT_snoc, wrR_snoc, List.map_append, mat_getD hb]
    rfl
  · obtain ⟨rfl, x0, y0, rfl⟩ := hI
    simp only [List.length_map, List.take_length]
    push_cast [Ev.rn_bind]
    exact q
end
theorem law_same_run (s : SD) {k w : Nat} {d : D} (h : Shw k w d) (hk : k ≤ 60) (hw : w ≤ 60000) {Q : D → SD → Prop} (q : Q (.bl true) s) : (F__law_same [d, d]).rn s Q noX := by
  unfold F__law_same b__law_same
  push_cast [Ev.rn_bind]
  have e : (D.str d.toP.shown).eqv (D.str d.toP.shown) = true := D.eqv_self rfl
  refine ⟨h.repr hk hw, h.repr hk hw, ⟨rfl, rfl⟩, ?_⟩
  rw [e]
  exact q
end K15
/-! from K15P24.lean -/
set_option maxRecDepth 100000
set_option maxHeartbeats 1000000
namespace K15
open PySem Ev Fit
theorem cut_take {ds : List D} {m : Nat} : cut ds none (some (m : Int)) = ds.take m := by
  unfold cut HT.sIx
  simp only [List.drop_zero, Nat.sub_zero]
  rw [if_neg (by omega), Int.toNat_natCast]
  by_cases h : m ≤ ds.length
  · rw [Nat.min_eq_left h]
  · rw [Nat.min_eq_right (by omega), List.take_length, List.take_of_length_le (by omega)]
/-- a row of kinds below n, of at most m -/
def Rw (n m : Nat) (row : List Nat) : Prop := (∀ x ∈ row, x < n) ∧ row.length ≤ m
theorem drawn_list {a : Addr} {n : Nat} {Γ : List Sl} {body : D → List Sl → M SD (Option D × List Sl)} {ds : List D} {s : SD} (hs : Dk a s) (h1 : 1 ≤ n) (hn : n ≤ 1000) {Q : List D × List Sl → SD → Prop}
    (hb : ∀ d ∈ ds, ∀ t, Dk a t → ∀ Q : Option D × List Sl → SD → Prop, (∀ j u, j < n → Dk a u → Q (some (iD j), Γ) u) → (body d Γ).rn t Q noX) (q : ∀ as u, Rw n ds.length as → as.length = ds.length → Dk a u → Q (as.map iD, Γ) u) : (lcLoop body ds Γ).rn s Q noX :=
  lc_st (c := iD) (P := fun j => j < n) (I := Dk a) hb hs fun as u hl hp hu => q as u ⟨hp, by omega⟩ hl hu
theorem fours {most j : Nat} (hj : j < 4) : ∃ m : Nat, at? [D.int 4, .int 8, .int 16, .int ((most : Int) + 1)] (j : Int) = some (.int (m : Nat)) ∧ 1 ≤ m ∧ (m = 4 ∨ m = 8 ∨ m = 16 ∨ m = most + 1) := by
  have : j = 0 ∨ j = 1 ∨ j = 2 ∨ j = 3 := by omega
  rcases this with rfl | rfl | rfl | rfl
  · exact ⟨4, rfl, by omega, by omega⟩
  · exact ⟨8, rfl, by omega, by omega⟩
  · exact ⟨16, rfl, by omega, by omega⟩
  · exact ⟨most + 1, by rw [show ((most : Int) + 1) = ((most + 1 : Nat) : Int) by omega]; rfl, by omega, by omega⟩
theorem rep_iD (b : List Nat) (m : Nat) : (List.replicate m (b.map iD)).flatten = ((List.replicate m b).flatten).map iD := by
  induction m with
  | zero => rfl
  | succ m ih => rw [List.replicate_succ, List.flatten_cons, ih, List.replicate_succ, List.flatten_cons, List.map_append]
theorem rep_mem {b : List Nat} {m : Nat} {x : Nat} (h : x ∈ (List.replicate m b).flatten) : x ∈ b := by
  obtain ⟨l, hl, hx⟩ := List.mem_flatten.mp h
  rw [(List.mem_replicate.mp hl).2] at hx
  exact hx
theorem rep_len {b : List Nat} {m : Nat} : ((List.replicate m b).flatten).length = m * b.length := by
  induction m with
  | zero => simp
  | succ m ih => rw [List.replicate_succ, List.flatten_cons, List.length_append, ih, Nat.succ_mul]; omega
theorem twelve {j : Nat} (hj : j < 12) : ∃ n : Nat, at? [D.int 3, .int 2, .int 4, .int 3, .int 4, .int 2, .int 5, .int 1, .int 6, .int 3, .int 7, .int 8] (j : Int) = some (.int (n : Nat)) ∧ 1 ≤ n ∧ n ≤ 8 := by
  have : j = 0 ∨ j = 1 ∨ j = 2 ∨ j = 3 ∨ j = 4 ∨ j = 5 ∨ j = 6 ∨ j = 7 ∨ j = 8 ∨ j = 9 ∨ j = 10 ∨ j = 11 := by omega
  rcases this with rfl | rfl | rfl | rfl | rfl | rfl | rfl | rfl | rfl | rfl | rfl | rfl
  · exact ⟨3, rfl, by decide, by decide⟩
  · exact ⟨2, rfl, by decide, by decide⟩
  · exact ⟨4, rfl, by decide, by decide⟩
  · exact ⟨3, rfl, by decide, by decide⟩
  · exact ⟨4, rfl, by decide, by decide⟩
  · exact ⟨2, rfl, by decide, by decide⟩
  · exact ⟨5, rfl, by decide, by decide⟩
  · exact ⟨1, rfl, by decide, by decide⟩
  · exact ⟨6, rfl, by decide, by decide⟩
  · exact ⟨3, rfl, by decide, by decide⟩
  · exact ⟨7, rfl, by decide, by decide⟩
  · exact ⟨8, rfl, by decide, by decide⟩
end K15
/-! from K15P25.lean -/
set_option maxRecDepth 100000
set_option maxHeartbeats 1000000
namespace K15
open PySem Ev Fit
theorem perm10 {α : Type} {a b : α} : permL 0 2 [1, 0] [] [a, b] = [b, a] := rfl
theorem perm01 {α : Type} {a b : α} : permL 0 2 [0, 1] [] [a, b] = [a, b] := rfl
theorem shT {n : Nat} {a : List Nat} {m : Nat} (hn : n ≤ 1000) (h : ∀ x ∈ a, x < n) (hl : a.length ≤ m) : Shw 1 m (tD a) := (Shw.tD fun y hy => by have := h y hy; omega).mono (Nat.le_refl _) hl
theorem sh3 {a b c : D} (ha : Shw 1 1000 a) (hb : Shw 1 1000 b) (hc : Shw 1 1000 c) : Shw 2 3003 (.lst [a, b, c]) := by
  refine (Shw.lst (k := 1) (w := 1000) (ds := [a, b, c]) fun d hd => ?_).mono (Nat.le_refl _) (by simp)
  simp only [List.mem_cons, List.not_mem_nil, or_false] at hd
  rcases hd with rfl | rfl | rfl <;> assumption
theorem sh2 {a b : D} (ha : Shw 1 1000 a) (hb : Shw 1 1000 b) : Shw 2 3003 (.lst [a, b]) := by
  refine (Shw.lst (k := 1) (w := 1000) (ds := [a, b]) fun d hd => ?_).mono (Nat.le_refl _) (by simp)
  simp only [List.mem_cons, List.not_mem_nil, or_false] at hd
  rcases hd with rfl | rfl <;> assumption
section
variable {n : Nat} {f g : Nat → Nat → Nat}
end
end K15
/-! from K15S.lean -/
set_option maxRecDepth 100000
set_option maxHeartbeats 1000000
/-! First rows, all orders: no program in sight. -/
namespace K15
open PySem Ev Fit
/-! ### sums of lists -/
theorem le_sum : ∀ {l : List Nat} {x : Nat}, x ∈ l → x ≤ l.sum
  | a :: l, x, h => by
    rw [List.sum_cons]
    cases h with
    | head => omega
    | tail _ h => have := le_sum h; omega
theorem sum0 : ∀ {l : List Nat}, (∀ x ∈ l, x = 0) → l.sum = 0
  | [], _ => rfl
  | a :: l, h => by rw [List.sum_cons, h a (.head _), sum0 fun x m => h x (.tail _ m)]
theorem sum_set {h : List Nat} {p : Nat} (hp : 0 < h.getD p 0) : ∀ {S : Nat}, h.sum = S + 1 → (h.set p (h.getD p 0 - 1)).sum = S := by
  induction h generalizing p with
  | nil => simp at hp
  | cons a h ih =>
    intro S e
    cases p with
    | zero =>
      simp only [List.getD_cons_zero] at hp ⊢
      rw [List.set_cons_zero, List.sum_cons]
      rw [List.sum_cons] at e
      omega
    | succ p =>
      simp only [List.getD_cons_succ] at hp ⊢
      rw [List.set_cons_succ, List.sum_cons]
      rw [List.sum_cons] at e
      have hs : 0 < h.sum := by
        have : h.getD p 0 ≤ h.sum := by
          have hl : p < h.length := by
            by_cases z : p < h.length
            · exact z
            · rw [List.getD_eq_getElem?_getD, List.getElem?_eq_none (by omega)] at hp; simp at hp
          rw [List.getD_eq_getElem?_getD, List.getElem?_eq_getElem hl]
          exact le_sum (List.getElem_mem hl)
        omega
      have := ih (p := p) hp (S := h.sum - 1) (by omega)
      rw [this]; omega
theorem set_getD {h : List Nat} {p v y : Nat} (hp : p < h.length) : (h.set p v).getD y 0 = if y = p then v else h.getD y 0 := by
  rw [List.getD_eq_getElem?_getD, List.getElem?_set]
  by_cases e : p = y
  · subst e; rw [if_pos rfl, if_pos hp, if_pos rfl]; rfl
  · rw [if_neg e, if_neg (Ne.symm e), List.getD_eq_getElem?_getD]
theorem sum_pos {h : List Nat} (hs : 0 < h.sum) : ∃ y, y < h.length ∧ 0 < h.getD y 0 := by
  induction h with
  | nil => simp at hs
  | cons a h ih =>
    by_cases z : 0 < a
    · exact ⟨0, by simp, by simpa using z⟩
    · rw [List.sum_cons] at hs
      obtain ⟨y, h1, h2⟩ := ih (by omega)
      exact ⟨y + 1, by simpa using h1, by simpa using h2⟩
theorem sum_zero {h : List Nat} (hs : h.sum = 0) (y : Nat) : h.getD y 0 = 0 := by
  induction h generalizing y with
  | nil => simp
  | cons a h ih =>
    rw [List.sum_cons] at hs
    cases y with
    | zero => simp; omega
    | succ y => simpa using ih (by omega) y
/-! ### the first row -/
/-- the least kind whose place is in the heap -/
def lx (n : Nat) (h t : List Nat) : Nat := ((List.range n).find? fun x => decide (0 < h.getD (t.getD x 0) 0)).getD 0
def dn (h t : List Nat) (x : Nat) : List Nat := h.set (t.getD x 0) (h.getD (t.getD x 0) 0 - 1)
def fR (n : Nat) (L : List (List Nat)) : List Nat → List Nat → Nat → List Nat
  | _, _, 0 => []
  | h, t, k + 1 => lx n h t :: fR n L (dn h t (lx n h t)) (aft t (L.getD (lx n h t) [])) k
section
variable {n : Nat} {f g : Nat → Nat → Nat}
theorem lx_spec {h t : List Nat} (hl : h.length = n) (ht : Pm n t) (hs : 0 < h.sum) : lx n h t < n ∧ 0 < h.getD (t.getD (lx n h t) 0) 0 ∧ ∀ y, y < lx n h t → h.getD (t.getD y 0) 0 = 0 := by
  obtain ⟨y, h1, h2⟩ := sum_pos hs
  have hy : y < n := by omega
  unfold lx
  cases e : (List.range n).find? fun x => decide (0 < h.getD (t.getD x 0) 0) with
  | none =>
    have := List.find?_eq_none.mp e (t.idxOf y) (List.mem_range.mpr (ht.b' y hy))
    rw [ht.to y hy] at this
    exact absurd (decide_eq_true h2) this
  | some x =>
    obtain ⟨hx, as, bs, e1, e2⟩ := List.find?_eq_some_iff_append.mp e
    have hlt : x < n := List.mem_range.mp (by rw [e1]; simp)
    refine ⟨hlt, of_decide_eq_true hx, fun z hz => ?_⟩
    have hz2 : z < x := hz
    have len : as.length = x := by
      have h1 : as.length < (List.range n).length := by rw [e1]; simp
      have h2 : (List.range n)[as.length]? = some x := by
        conv => lhs; rw [e1]
        rw [List.getElem?_append_right (Nat.le_refl _), Nat.sub_self]; rfl
      rw [List.length_range] at h1
      rw [List.getElem?_range h1] at h2
      exact Option.some.inj h2
    have : z ∈ as := by
      have h3 : z < as.length := by omega
      have h4 : (List.range n)[z]? = some as[z] := by
        conv => lhs; rw [e1]
        rw [List.getElem?_append_left h3, List.getElem?_eq_getElem h3]
      rw [List.getElem?_range (by omega)] at h4
      rw [Option.some.inj h4]
      exact List.getElem_mem h3
    have := e2 z this
    simpa using this
theorem dn_len {h t : List Nat} {x : Nat} : (dn h t x).length = h.length := by unfold dn; simp
theorem dn_sum {h t : List Nat} {x S : Nat} (hp : 0 < h.getD (t.getD x 0) 0) (e : h.sum = S + 1) : (dn h t x).sum = S := sum_set hp e
theorem fR_lt (r : Rl n f g) : ∀ (k : Nat) (h t : List Nat), h.length = n → Pm n t → h.sum = k → ∀ x ∈ fR n (mat n f) h t k, x < n
  | 0, _, _, _, _, _, x, hx => nomatch hx
  | k + 1, h, t, hl, ht, hs, x, hx => by
    obtain ⟨a, b, _⟩ := lx_spec hl ht (by omega)
    cases hx with
    | head => exact a
    | tail _ hx => exact fR_lt r k _ _ (by rw [dn_len, hl]) (step_pm r ht a) (dn_sum b hs) x hx
theorem fR_len (L : List (List Nat)) : ∀ (k : Nat) (h t : List Nat), (fR n L h t k).length = k
  | 0, _, _ => rfl
  | k + 1, _, _ => congrArg (· + 1) (fR_len L k _ _)
/-- its heap -/
theorem fR_count (r : Rl n f g) : ∀ (k : Nat) (h t : List Nat), h.length = n → Pm n t → h.sum = k → ∀ y, (rdO (mat n f) (fR n (mat n f) h t k) t).count y = h.getD y 0
  | 0, h, t, _, _, hs, y => (sum_zero hs y).symm
  | k + 1, h, t, hl, ht, hs, y => by
    obtain ⟨a, b, _⟩ := lx_spec hl ht (by omega)
    have hp := ht.b _ a
    have ih := fR_count r k _ _ (by rw [dn_len, hl]) (step_pm r ht a) (dn_sum b hs) y
    show (t.getD (lx n h t) 0 :: rdO (mat n f) _ _).count y = _
    rw [List.count_cons, ih, dn, set_getD (by omega)]
    by_cases e : y = t.getD (lx n h t) 0
    · rw [if_pos e, if_pos (by rw [e]; exact beq_self_eq_true _), e]; omega
    · rw [if_neg e, if_neg (by simp only [beq_iff_eq]; exact fun z => e z.symm)]; rfl
/-! ### it is the least -/
def ltR : List Nat → List Nat → Bool
  | [], [] => false
  | [], _ :: _ => true
  | _ :: _, [] => false
  | x :: a, y :: b => if x = y then ltR a b else decide (x < y)
theorem ltR_irr : ∀ a : List Nat, ltR a a = false
  | [] => rfl
  | x :: a => by rw [ltR, if_pos rfl, ltR_irr a]
theorem ltR_asym : ∀ a b : List Nat, ltR a b = true → ltR b a = false
  | [], [], h => nomatch h
  | [], _ :: _, _ => rfl
  | _ :: _, [], h => nomatch h
  | x :: a, y :: b, h => by
    rw [ltR] at h ⊢
    by_cases e : x = y
    · rw [if_pos e] at h; rw [if_pos e.symm]; exact ltR_asym a b h
    · rw [if_neg e] at h; rw [if_neg (Ne.symm e)]
      have := of_decide_eq_true h
      exact decide_eq_false (by omega)
theorem fR_least (r : Rl n f g) : ∀ (k : Nat) (h t row : List Nat), h.length = n → Pm n t → h.sum = k → (∀ x ∈ row, x < n) → (∀ y, (rdO (mat n f) row t).count y = h.getD y 0) → row.length = k → row = fR n (mat n f) h t k ∨ ltR (fR n (mat n f) h t k) row = true
  | 0, h, t, [], _, _, _, _, _, _ => .inl rfl
  | k + 1, h, t, x :: row, hl, ht, hs, hr, hc, hk => by
    obtain ⟨a, b, c⟩ := lx_spec hl ht (by omega)
    have hx := hr x (.head _)
    have hp : 0 < h.getD (t.getD x 0) 0 := by
      rw [← hc]
      exact List.count_pos_iff.mpr (.head _)
    have le : lx n h t ≤ x := by
      by_cases z : lx n h t ≤ x
      · exact z
      · have := c x (by omega); omega
    by_cases e : lx n h t = x
    · have hc2 : ∀ y, (rdO (mat n f) row (aft t ((mat n f).getD x []))).count y = (dn h t x).getD y 0 := fun y => by
        have h1 := hc y
        have h1 : (t.getD x 0 :: rdO (mat n f) row (aft t ((mat n f).getD x []))).count y = h.getD y 0 := h1
        have hlt := ht.b x hx
        rw [List.count_cons] at h1
        rw [dn, set_getD (by omega)]
        by_cases q : y = t.getD x 0
        · rw [if_pos (by rw [q]; exact beq_self_eq_true _)] at h1
          rw [if_pos q, ← q]; omega
        · rw [if_neg (by simp only [beq_iff_eq]; exact fun z => q z.symm)] at h1
          rw [if_neg q]; omega
      have hlx := hx
      have ih := fR_least r k _ _ row (by rw [dn_len, hl]) (step_pm r ht hx) (dn_sum hp hs) (fun z hz => hr z (.tail _ hz)) hc2 (by simpa using hk)
      show x :: row = lx n h t :: fR n (mat n f) (dn h t (lx n h t)) (aft t ((mat n f).getD (lx n h t) [])) k ∨ ltR (lx n h t :: fR n (mat n f) (dn h t (lx n h t)) (aft t ((mat n f).getD (lx n h t) [])) k) (x :: row) = true
      rw [e]
      rcases ih with ih | ih
      · exact .inl (congrArg (x :: ·) ih)
      · refine .inr ?_
        rw [ltR, if_pos rfl]; exact ih
    · refine .inr ?_
      show ltR (lx n h t :: _) (x :: row) = true
      rw [ltR, if_neg e]
      exact decide_eq_true (by omega)
/-! ### all orders -/
def ords (n : Nat) (h : List Nat) : Nat → List (List Nat)
  | 0 => [[]]
  | k + 1 => (ords n h k).flatMap fun row => ((List.range n).filter fun y => decide (row.count y < h.getD y 0)).map fun y => row ++ [y]
theorem ords_mem {h : List Nat} : ∀ {k : Nat} {row : List Nat}, row ∈ ords n h k → row.length = k ∧ (∀ y ∈ row, y < n) ∧ ∀ y, y < n → row.count y ≤ h.getD y 0
  | 0, row, hr => by
    rw [List.mem_singleton.mp hr]
    exact ⟨rfl, fun y (hy : y ∈ []) => (nomatch hy), fun y _ => Nat.zero_le _⟩
  | k + 1, row, hr => by
    obtain ⟨w, hw, hr⟩ := List.mem_flatMap.mp hr
    obtain ⟨y, hy, rfl⟩ := List.mem_map.mp hr
    obtain ⟨hy, hc⟩ := List.mem_filter.mp hy
    obtain ⟨a, b, c⟩ := ords_mem hw
    refine ⟨by rw [List.length_append, a]; rfl, fun z hz => ?_, fun z hz => ?_⟩
    · rcases List.mem_append.mp hz with h | h
      · exact b z h
      · rw [List.mem_singleton.mp h]; exact List.mem_range.mp hy
    · rw [List.count_append]
      have hc := of_decide_eq_true hc
      by_cases e : z = y
      · subst e; rw [List.count_singleton_self]; omega
      · have : [y].count z = 0 := List.count_eq_zero.mpr (by simpa using e)
        have := c z hz
        omega
theorem mem_ords {h : List Nat} : ∀ (k : Nat) (row : List Nat), row.length = k → (∀ y ∈ row, y < n) → (∀ y, y < n → row.count y ≤ h.getD y 0) → row ∈ ords n h k
  | 0, row, hl, _, _ => by
    rw [List.length_eq_zero_iff.mp hl]; exact .head _
  | k + 1, row, hl, hb, hc => by
    have hne : row ≠ [] := fun z => by rw [z] at hl; cases hl
    have e := (List.dropLast_concat_getLast hne).symm
    have hd : row.dropLast.length = k := by rw [List.length_dropLast, hl]; rfl
    generalize row.dropLast = w at e hd
    generalize row.getLast hne = y at e
    subst e
    have hy := hb y (by simp)
    refine List.mem_flatMap.mpr ⟨w, mem_ords k w hd (fun z hz => hb z (by simp [hz])) fun z hz => ?_, List.mem_map.mpr ⟨y, List.mem_filter.mpr ⟨List.mem_range.mpr hy, ?_⟩, rfl⟩⟩
    · have := hc z hz
      rw [List.count_append] at this; omega
    · have := hc y hy
      rw [List.count_append, List.count_singleton_self] at this
      exact decide_eq_true (by omega)
/-- the numbers of a list, summed up, are its length -/
theorem len_counts : ∀ {row : List Nat}, (∀ y ∈ row, y < n) → row.length = ((List.range n).map fun y => row.count y).sum := by
  intro row
  induction row with
  | nil =>
    intro _
    exact (sum0 fun v hv => by obtain ⟨y, _, rfl⟩ := List.mem_map.mp hv; rfl).symm
  | cons x row ih =>
    intro hb
    have hx := hb x (.head _)
    have h1 := ih fun y hy => hb y (.tail _ hy)
    have e : ((List.range n).map fun y => (x :: row).count y) = (List.range n).map fun y => row.count y + if y = x then 1 else 0 := List.map_congr_left fun y _ => by
      rw [List.count_cons]
      by_cases e : y = x
      · rw [if_pos e, if_pos (by rw [e]; exact beq_self_eq_true _)]
      · rw [if_neg e, if_neg (by simp only [beq_iff_eq]; exact fun z => e z.symm)]
    have s : ∀ (l : List Nat) (F G : Nat → Nat), (l.map fun y => F y + G y).sum = (l.map F).sum + (l.map G).sum := fun l F G => by
      induction l with
      | nil => rfl
      | cons a l ih => simp only [List.map_cons, List.sum_cons]; rw [ih]; omega
    have one : ∀ n : Nat, x < n → ((List.range n).map fun y => if y = x then 1 else 0).sum = 1 := fun n => by
      induction n with
      | zero => intro h; omega
      | succ n ih =>
        intro h
        rw [List.range_succ, List.map_append, List.sum_append]
        by_cases q : n = x
        · have z : ((List.range n).map fun y => if y = x then 1 else 0).sum = 0 := by
            refine sum0 fun v hv => ?_
            obtain ⟨y, hy, rfl⟩ := List.mem_map.mp hv
            have := List.mem_range.mp hy
            exact if_neg (by omega)
          rw [z]; simp [q]
        · rw [ih (by omega)]; simp [q]
    rw [e, s, one n hx, List.length_cons, h1]
theorem list_nat {h : List Nat} (hl : h.length = n) : h = (List.range n).map fun y => h.getD y 0 := by
  refine List.ext_getElem (by simp [hl]) fun i h1 h2 => ?_
  rw [List.getElem_map, List.getElem_range, List.getD_eq_getElem?_getD, List.getElem?_eq_getElem h1]; rfl
theorem sum_le_eq {F G : Nat → Nat} : ∀ {n : Nat}, (∀ y, y < n → F y ≤ G y) → ((List.range n).map F).sum = ((List.range n).map G).sum → ∀ y, y < n → F y = G y
  | 0, _, _, y, hy => by omega
  | n + 1, h, e, y, hy => by
    have le : ∀ m, m ≤ n + 1 → ((List.range m).map F).sum ≤ ((List.range m).map G).sum := fun m => by
      induction m with
      | zero => intro _; simp
      | succ m ih =>
        intro hm
        rw [List.range_succ, List.map_append, List.map_append, List.sum_append, List.sum_append]
        have := ih (by omega)
        have := h m (by omega)
        simp; omega
    rw [List.range_succ, List.map_append, List.map_append, List.sum_append, List.sum_append] at e
    have h1 := le n (by omega)
    have h2 := h n (by omega)
    simp at e
    by_cases z : y = n
    · subst z; omega
    · exact sum_le_eq (n := n) (fun y hy => h y (by omega)) (by omega) y (by omega)
theorem ords_count {h row : List Nat} (hl : h.length = n) (hr : row ∈ ords n h h.sum) : ∀ y, row.count y = h.getD y 0 := fun y => by
  obtain ⟨a, b, c⟩ := ords_mem hr
  by_cases hy : y < n
  · refine sum_le_eq c ?_ y hy
    rw [← len_counts b, a]
    conv => lhs; rw [list_nat hl]
  · rw [List.getD_eq_getElem?_getD, List.getElem?_eq_none (by omega)]
    exact List.count_eq_zero.mpr fun z => hy (b y z)
end
end K15
/-! from K15S2.lean -/
set_option maxRecDepth 100000
set_option maxHeartbeats 1000000
/-! How many orders a heap has; the least of the rows: no program in sight. -/
namespace K15
open PySem Ev Fit
section
variable {α : Type}
theorem sum_app (l m : List Nat) : (l ++ m).sum = l.sum + m.sum := List.sum_append
theorem sum_flat {β : Type} (F : β → Nat) (G : α → List β) : ∀ l : List α, ((l.flatMap G).map F).sum = (l.map fun a => ((G a).map F).sum).sum
  | [] => rfl
  | a :: l => by rw [List.flatMap_cons, List.map_append, sum_app, List.map_cons, List.sum_cons, sum_flat F G l]
theorem sum_mul (F : α → Nat) (c : Nat) : ∀ l : List α, (l.map F).sum * c = (l.map fun a => F a * c).sum
  | [] => Nat.zero_mul c
  | a :: l => by rw [List.map_cons, List.sum_cons, List.map_cons, List.sum_cons, Nat.add_mul, sum_mul F c l]
theorem mul_sum (F : α → Nat) (c : Nat) (l : List α) : c * (l.map F).sum = (l.map fun a => c * F a).sum := by
  rw [Nat.mul_comm, sum_mul]; exact congrArg List.sum (List.map_congr_left fun a _ => Nat.mul_comm _ _)
theorem sum_filt (F : α → Nat) (p : α → Bool) : ∀ {l : List α}, (∀ a ∈ l, p a = false → F a = 0) → ((l.filter p).map F).sum = (l.map F).sum
  | [], _ => rfl
  | a :: l, h => by
    have ih := sum_filt F p (l := l) fun b hb => h b (.tail _ hb)
    rw [List.filter_cons, List.map_cons, List.sum_cons]
    cases e : p a with
    | true => rw [if_pos rfl, List.map_cons, List.sum_cons, ih]
    | false => rw [if_neg (by simp), ih, h a (.head _) e]; omega
end
/-- how many orders: one kind after the other -/
def Mn (n : Nat) : Nat → List Nat → Nat
  | 0, _ => 1
  | k + 1, h => (((List.range n).filter fun y => decide (0 < h.getD y 0)).map fun y => Mn n k (h.set y (h.getD y 0 - 1))).sum
def rst (n : Nat) (h row : List Nat) : List Nat := (List.range n).map fun y => h.getD y 0 - row.count y
section
variable {n : Nat}
theorem rst_get {h row : List Nat} {y : Nat} (hy : y < n) : (rst n h row).getD y 0 = h.getD y 0 - row.count y := fn_getD _ _ hy
theorem rst_snoc {h row : List Nat} {y : Nat} (hy : y < n) : (rst n h row).set y ((rst n h row).getD y 0 - 1) = rst n h (row ++ [y]) := by
  rw [rst_get hy]
  unfold rst
  refine List.ext_getElem (by simp) fun i h1 h2 => ?_
  rw [List.getElem_set]
  simp only [List.getElem_map, List.getElem_range, List.count_append]
  by_cases e : y = i
  · subst e
    rw [if_pos rfl, List.count_singleton_self]; omega
  · rw [if_neg e]
    have : [y].count i = 0 := List.count_eq_zero.mpr (by simpa using Ne.symm e)
    omega
theorem rst_nil {h : List Nat} (hl : h.length = n) : rst n h [] = h := by
  conv => rhs; rw [list_nat hl]
  rfl
theorem pot {h : List Nat} (k j : Nat) : ((ords n h k).map fun row => Mn n (j + 1) (rst n h row)).sum = ((ords n h (k + 1)).map fun row => Mn n j (rst n h row)).sum := by
  show _ = (((ords n h k).flatMap fun row => ((List.range n).filter fun y => decide (row.count y < h.getD y 0)).map fun y => row ++ [y]).map fun row => Mn n j (rst n h row)).sum
  rw [sum_flat]
  refine congrArg List.sum (List.map_congr_left fun row _ => ?_)
  show (((List.range n).filter fun y => decide (0 < (rst n h row).getD y 0)).map fun y => Mn n j ((rst n h row).set y ((rst n h row).getD y 0 - 1))).sum = _
  have ef : ((List.range n).filter fun y => decide (0 < (rst n h row).getD y 0)) = (List.range n).filter fun y => decide (row.count y < h.getD y 0) := List.filter_congr fun y hy => by
    rw [rst_get (List.mem_range.mp hy)]
    exact decide_eq_decide.mpr (by omega)
  rw [ef, List.map_map]
  refine congrArg List.sum (List.map_congr_left fun y hy => ?_)
  have := List.mem_range.mp (List.mem_filter.mp hy).1
  rw [rst_snoc this]; rfl
theorem pots {h : List Nat} : ∀ (j k : Nat), ((ords n h k).map fun row => Mn n j (rst n h row)).sum = (ords n h (k + j)).length
  | 0, k => by
    have : ∀ l : List (List Nat), (l.map fun row => Mn n 0 (rst n h row)).sum = l.length := fun l => by
      induction l with
      | nil => rfl
      | cons a l ih => rw [List.map_cons, List.sum_cons, ih, List.length_cons]; show 1 + l.length = _; omega
    exact this _
  | j + 1, k => by rw [pot, pots j (k + 1), show k + 1 + j = k + (j + 1) by omega]
theorem ords_len {h : List Nat} (hl : h.length = n) (S : Nat) : (ords n h S).length = Mn n S h := by
  have := pots (n := n) (h := h) S 0
  rw [Nat.zero_add] at this
  rw [← this]
  show ([[]].map fun row => Mn n S (rst n h row)).sum = _
  rw [List.map_cons, List.map_nil, List.sum_cons, rst_nil hl]; rfl
/-! factorials -/
abbrev fc : Nat → Nat := Builtin.Math.factorialNat
theorem fc_succ (k : Nat) : fc (k + 1) = fc k * (k + 1) := by
  show (List.range (k + 1)).foldl _ 1 = _
  rw [List.range_succ, List.foldl_append]; rfl
theorem fc_pos : ∀ k, 0 < fc k
  | 0 => by decide
  | k + 1 => by rw [fc_succ]; exact Nat.mul_pos (fc_pos k) (Nat.succ_pos k)
def pf : List Nat → Nat
  | [] => 1
  | a :: l => fc a * pf l
theorem pf_pos : ∀ l, 0 < pf l
  | [] => Nat.one_pos
  | a :: l => Nat.mul_pos (fc_pos a) (pf_pos l)
theorem pf_set : ∀ {h : List Nat} {y : Nat}, 0 < h.getD y 0 → pf h = pf (h.set y (h.getD y 0 - 1)) * h.getD y 0
  | [], y, q => by simp at q
  | a :: l, 0, q => by
    simp only [List.getD_cons_zero] at q ⊢
    rw [List.set_cons_zero, pf, pf]
    obtain ⟨b, rfl⟩ : ∃ b, a = b + 1 := ⟨a - 1, by omega⟩
    rw [fc_succ, Nat.add_sub_cancel]
    simp only [Nat.mul_assoc, Nat.mul_comm, Nat.mul_left_comm]
  | a :: l, y + 1, q => by
    simp only [List.getD_cons_succ] at q ⊢
    rw [List.set_cons_succ, pf, pf, pf_set q, Nat.mul_assoc]
theorem Mn_pf : ∀ {k : Nat} {h : List Nat}, h.length = n → h.sum = k → Mn n k h * pf h = fc k
  | 0, h, hl, hs => by
    have : pf h = 1 := by
      clear hl
      induction h with
      | nil => rfl
      | cons a l ih =>
        rw [List.sum_cons] at hs
        rw [pf, ih (by omega), show a = 0 by omega]; rfl
    rw [this]; rfl
  | k + 1, h, hl, hs => by
    show (((List.range n).filter fun y => decide (0 < h.getD y 0)).map fun y => Mn n k (h.set y (h.getD y 0 - 1))).sum * pf h = _
    rw [sum_mul]
    have e : (((List.range n).filter fun y => decide (0 < h.getD y 0)).map fun y => Mn n k (h.set y (h.getD y 0 - 1)) * pf h) = ((List.range n).filter fun y => decide (0 < h.getD y 0)).map fun y => fc k * h.getD y 0 := List.map_congr_left fun y hy => by
      have hp := of_decide_eq_true (List.mem_filter.mp hy).2
      conv => lhs; arg 2; rw [pf_set hp]
      rw [← Nat.mul_assoc, Mn_pf (by simp [hl]) (sum_set hp hs)]
    rw [e, ← mul_sum, sum_filt (fun y => h.getD y 0) _ (fun y _ q => by have := of_decide_eq_false q; omega), ← list_nat hl, hs, fc_succ]
def dvs (a : Nat) (l : List Nat) : Nat := l.foldl (fun a m => a / fc m) a
theorem dvs_eq : ∀ (l : List Nat) (a : Nat), dvs a l = a / pf l
  | [], a => (Nat.div_one a).symm
  | m :: l, a => by
    show dvs (a / fc m) l = a / (fc m * pf l)
    rw [dvs_eq l, Nat.div_div_eq_div_mul]
theorem dvs_Mn {h : List Nat} (hl : h.length = n) : dvs (fc h.sum) h = (ords n h h.sum).length := by
  rw [dvs_eq, ords_len hl, ← Mn_pf hl rfl, Nat.mul_div_cancel _ (pf_pos h)]
end
/-! ### the least -/
theorem fold_stay {lt : PyData → PyData → Bool} {m : PyData} : ∀ {xs : List PyData}, (∀ z ∈ xs, lt z m = false) → xs.foldl (fun a y => if lt y a then y else a) m = m
  | [], _ => rfl
  | z :: xs, h => by
    rw [List.foldl_cons, h z (.head _)]
    exact fold_stay fun y hy => h y (.tail _ hy)
theorem fold_least {lt : PyData → PyData → Bool} {m : PyData} : ∀ {xs : List PyData} {x : PyData}, m ∈ x :: xs → (∀ z ∈ x :: xs, lt z m = false) → (∀ z ∈ x :: xs, z = m ∨ lt m z = true) → xs.foldl (fun a y => if lt y a then y else a) x = m
  | [], x, hm, _, _ => (List.mem_singleton.mp hm).symm
  | y :: xs, x, hm, h1, h2 => by
    rw [List.foldl_cons]
    by_cases e : x = m
    · subst e
      rw [h1 y (.tail _ (.head _))]
      exact fold_stay fun z hz => h1 z (.tail _ (.tail _ hz))
    · have hm2 : m ∈ y :: xs := by
        cases hm with
        | head => exact absurd rfl e
        | tail _ h => exact h
      by_cases c : lt y x = true
      · rw [if_pos c]
        exact fold_least hm2 (fun z hz => h1 z (.tail _ hz)) fun z hz => h2 z (.tail _ hz)
      · rw [if_neg c]
        have hne : y ≠ m := fun q => by
          rw [q] at c
          rcases h2 x (.head _) with q2 | q2
          · exact e q2
          · exact c q2
        refine fold_least ?_ (fun z hz => ?_) (fun z hz => ?_)
        · cases hm2 with
          | head => exact absurd rfl hne
          | tail _ h => exact .tail _ h
        · cases hz with
          | head => exact h1 _ (.head _)
          | tail _ h => exact h1 _ (.tail _ (.tail _ h))
        · cases hz with
          | head => exact h2 _ (.head _)
          | tail _ h => exact h2 _ (.tail _ (.tail _ h))
theorem toP_tD (a : List Nat) : (tD a).toP = .tuple (a.map fun (k : Nat) => PyData.int (k : Int)) := by
  show (D.tup (a.map iD)).toP = _
  rw [D.toP, toPs_map, List.map_map]; rfl
theorem lt_all : ∀ a b : List Nat, PyProof.Rows.lexLt PyProof.Rows.itemOrd (PySem.W.keyToksAll (a.map fun (k : Nat) => PyData.int (k : Int))) (PySem.W.keyToksAll (b.map fun (k : Nat) => PyData.int (k : Int))) = ltR a b
  | [], [] => PyProof.Rows.lex_irrefl _
  | [], y :: b => by
    rw [List.map_nil, List.map_cons, PySem.W.toks_all_cons]
    simp only [PySem.W.keyToksAll]
    rw [PyProof.Rows.lex_diff (O := PyProof.Rows.itemOrd) (by simp)]
    rfl
  | x :: a, [] => by
    rw [List.map_nil, List.map_cons, PySem.W.toks_all_cons]
    simp only [PySem.W.keyToksAll]
    rw [PyProof.Rows.lex_diff (O := PyProof.Rows.itemOrd) (by simp)]
    rfl
  | x :: a, y :: b => by
    rw [List.map_cons, List.map_cons, ltR]
    have al : PySem.W.alike (.int (x : Int)) (.int (y : Int)) = true := by simp only [PySem.W.alike]
    by_cases h : x = y
    · rw [if_pos h, PySem.W.dataLt_all_yes al (by rw [PyData.eqv]; simp [h]), lt_all a b]
    · rw [if_neg h, PySem.W.dataLt_all_no al (by rw [PyData.eqv]; exact beq_eq_false_iff_ne.mpr (by omega))]
      refine (PySem.W.dataLt_int _ _).trans ?_
      exact decide_eq_decide.mpr (by omega)
theorem lt_tD (a b : List Nat) : PySem.W.dataLt (tD a).toP (tD b).toP = ltR a b := by
  rw [toP_tD, toP_tD]
  exact (PySem.W.dataLt_tuple _ _).trans (lt_all a b)
theorem toP_inj {a b : List Nat} (e : (tD a).toP = (tD b).toP) : a = b := by
  rw [toP_tD, toP_tD] at e
  have e : (a.map fun (k : Nat) => PyData.int (k : Int)) = b.map fun (k : Nat) => PyData.int (k : Int) := PyData.tuple.inj e
  revert e
  suffices h : ∀ a b : List Nat, (a.map fun (k : Nat) => PyData.int (k : Int)) = (b.map fun (k : Nat) => PyData.int (k : Int)) → a = b from h a b
  clear e a b
  intro a b e
  induction a generalizing b with
  | nil =>
    cases b with
    | nil => rfl
    | cons y b => cases e
  | cons x a ih =>
    cases b with
    | nil => cases e
    | cons y b =>
      rw [List.map_cons, List.map_cons] at e
      obtain ⟨e1, e2⟩ := List.cons.inj e
      have e1 := PyData.int.inj e1
      rw [ih b e2, show x = y by omega]
/-- the least of rows -/
theorem min_rows {row : List Nat} {rows : List (List Nat)} {m : List Nat} (hm : m ∈ row :: rows) (h : ∀ z ∈ row :: rows, z = m ∨ ltR m z = true) : PySem.W.minD (tD row).toP (toPs (rows.map tD)) = (tD m).toP := by
  unfold PySem.W.minD
  rw [toPs_map, List.map_map]
  have hmem : ∀ {p : PyData}, p ∈ (tD row).toP :: rows.map (D.toP ∘ tD) → ∃ z ∈ row :: rows, p = (tD z).toP := fun {p} hp => by
    cases hp with
    | head => exact ⟨row, .head _, rfl⟩
    | tail _ hp =>
      obtain ⟨z, hz, rfl⟩ := List.mem_map.mp hp
      exact ⟨z, .tail _ hz, rfl⟩
  refine fold_least ?_ (fun p hp => ?_) (fun p hp => ?_)
  · cases hm with
    | head => exact .head _
    | tail _ hm => exact .tail _ (List.mem_map.mpr ⟨m, hm, rfl⟩)
  · obtain ⟨z, hz, rfl⟩ := hmem hp
    rw [lt_tD]
    rcases h z hz with e | e
    · rw [e]; exact ltR_irr m
    · exact ltR_asym _ _ e
  · obtain ⟨z, hz, rfl⟩ := hmem hp
    rcases h z hz with e | e
    · exact .inl (by rw [e])
    · exact .inr (by rw [lt_tD]; exact e)
end K15
/-! from K15R1.lean -/
set_option maxRecDepth 100000
set_option maxHeartbeats 1000000
namespace Ev
open PySem
section
variable {S : Type} {s : S} {E : Xn → S → Prop}
theorem rn_eRevS {a : TEv S} {Γ : List Sl} {Q : Rv × List Sl → S → Prop} : (eRevS a Γ : M S _).rn s Q E = ((a Γ).bind fun p => (use p.2 p.1).bind fun x => (opRevS x).bind fun r => .pure (r, p.2) : M S _).rn s Q E := propext ⟨id, id⟩
theorem rn_eOp {op : List D → M S Rv} {es : TEs S} {Γ : List Sl} {Q : Rv × List Sl → S → Prop} : (eOp op es Γ : M S _).rn s Q E = ((es Γ).bind fun p => (M.opt (valOs p.2 p.1)).bind fun xs => (op xs).bind fun r => .pure (r, p.2) : M S _).rn s Q E := propext ⟨id, id⟩
theorem rn_wEn {e : TEv S} {Γ : List Sl} {Q : List D × List Sl → S → Prop} : (wEn e Γ : M S _).rn s Q E = ((e Γ).bind fun p => (M.opt (frz p.2 (opd p.1))).bind fun q => (M.opt (seqOf q.1)).bind fun ds => .pure (enumD 0 ds, q.2) : M S _).rn s Q E := propext ⟨id, id⟩
theorem rn_any {α : Type} {p : α → Prop} {Q : α → S → Prop} : (M.some p : M S α).rn s Q E = ∀ a, p a → Q a s := propext ⟨id, id⟩
end
end Ev
namespace K15
open PySem Ev Fit
theorem ints_iD : ∀ o : List Nat, intsOf (o.map iD) = some (o.map fun (k : Nat) => (k : Int))
  | [] => rfl
  | x :: o => by rw [List.map_cons, intsOf, ints_iD o]; rfl
theorem sum_iD : ∀ o : List Nat, (o.map fun (k : Nat) => (k : Int)).sum = ((o.sum : Nat) : Int)
  | [] => rfl
  | x :: o => by rw [List.map_cons, List.sum_cons, List.sum_cons, sum_iD o]; omega
theorem min_iD {S : Type} : ∀ l : List Nat, (opMin2 [.lst (l.map iD)] : M S Rv) = opMin [.lst (l.map iD)]
  | [] => rfl
  | x :: l => rfl
section
variable {S : Type} {s : S} {E : Xn → S → Prop}
theorem rn_sumT {o : List Nat} {Q : Rv → S → Prop} : (opSum2 [.tup (o.map iD)] : M S Rv).rn s Q E = Q (.dat (iD o.sum)) s := by
  have e : (opSum2 [.tup (o.map iD)] : M S Rv) = (M.opt (intsOf (o.map iD))).bind fun ns => .pure (.dat (.int ns.sum)) := rfl
  rw [e, ints_iD]
  refine propext ⟨fun h => ?_, fun h => ?_⟩
  · have h : Q (.dat (.int ((o.map fun (k : Nat) => (k : Int)).sum))) s := h
    rwa [sum_iD] at h
  · show Q (.dat (.int ((o.map fun (k : Nat) => (k : Int)).sum))) s
    rw [sum_iD]; exact h
theorem rn_min2 {l : List Nat} {m : Nat} (h1 : m ∈ l) (h2 : ∀ y ∈ l, m ≤ y) {Q : Rv → S → Prop} (q : Q (.dat (iD m)) s) : (opMin2 [.lst (l.map iD)] : M S Rv).rn s Q E := by
  rw [min_iD]
  have e : (opMin [.lst (l.map iD)] : M S Rv) = (M.opt (intsOf (l.map iD))).bind fun ns => .need (0 < ns.length) ((M.some fun m : Int => m ∈ ns ∧ ∀ y, y ∈ ns → m ≤ y).bind fun m => .pure (.dat (.int m))) := rfl
  rw [e, ints_iD]
  refine ⟨by rw [List.length_map]; exact List.length_pos_of_mem h1, ?_⟩
  rintro i ⟨h3, h4⟩
  obtain ⟨z, hz, rfl⟩ := List.mem_map.mp h3
  have a := h2 z hz
  have b := h4 m (List.mem_map.mpr ⟨m, h1, rfl⟩)
  have : z = m := by omega
  subst this
  exact q
end
section
variable {n : Nat} {f g : Nat → Nat → Nat}
theorem at_set {h : List Nat} {p : Nat} {v : Nat} : (h.map iD).set p (.int (v : Nat)) = (h.set p v).map iD := by rw [List.map_set]
theorem first_by_run (s : SD) (hn : n ≤ 1000) (r : Rl n f g) {h : List Nat} (hl : h.length = n) (hS : h.sum ≤ 1000) {Q : D → SD → Prop} (q : Q (tD (fR n (mat n f) h (rg n) h.sum)) s) :
    (F_first_by [.tup ((mat n f).map tD), tD h]).rn s Q noX := by
  unfold F_first_by b_first_by
  push_cast [Ev.rn_eRevS, Ev.opRevS, ← List.map_reverse, List.length_reverse]
  walk_at "nq"
  refine identity_run s n hn _ ?_
  push_cast [Ev.rn_eRevS, Ev.opRevS, ← List.map_reverse, List.length_reverse, rn_eOp, rn_sumT]
  walk_at "nq"
  refine for_rn (I := fun i Γ t => t = s ∧ ∃ found left turn x5 x6, left.length = n ∧ Pm n turn ∧ left.sum = h.sum - i ∧ found.length = i ∧ (∀ d, x6 ≠ .own d) ∧ fR n (mat n f) h (rg n) h.sum = found ++ fR n (mat n f) left turn (h.sum - i) ∧ Γ = [.dat (.tup ((mat n f).map tD)), .dat (tD h), .own (.lst (found.map iD)), .own (.lst (left.map iD)), .dat (tD turn), x5, x6]) (fun i e Γ t he hI => ?_) (fun Γ t hI => ?_) _ _ ⟨rfl, [], h, rg n, _, _, hl, Pm.range n, rfl, rfl, (fun d e => by cases e), rfl, rfl⟩
  · obtain ⟨rfl, found, left, turn, x5, x6, ll, pt, hs, fl, ho6, ef, rfl⟩ := hI
    rw [List.getElem?_map] at he
    have hi : i < h.sum := by
      by_cases z : i < h.sum
      · exact z
      · rw [List.getElem?_eq_none (by simpa using z)] at he; cases he
    have hpos : 0 < left.sum := by omega
    obtain ⟨a, b, c⟩ := lx_spec ll pt hpos
    have hp := pt.b _ a
    have ltu := pt.len
    push_cast [Ev.rn_eRevS, Ev.opRevS, ← List.map_reverse, List.length_reverse, rn_eOp]
    refine ⟨⟨by cases x6 <;> first | rfl | exact absurd rfl (ho6 _), by omega⟩, ?_⟩
    refine lc_filt (c := iD) (h := iD) (p := fun x => decide (0 < left.getD (turn.getD x 0) 0)) (fun x hx Q1 q1 => ?_) ?_
    · have hx := pt.lt hx
      have hpx := pt.b x hx
      push_cast [Ev.rn_eRevS, Ev.opRevS, ← List.map_reverse, List.length_reverse, at_list (a := turn) (k := x) (by omega), at_list (a := left) (k := turn.getD x 0) (by omega)]
      refine ⟨fun e => ?_, fun e => ?_⟩
      · have e : decide (0 < left.getD (turn.getD x 0) 0) = true := by
          rw [← e]; exact decide_eq_decide.mpr (by omega)
        rw [e] at q1
        push_cast [Ev.rn_eRevS, Ev.opRevS, ← List.map_reverse, List.length_reverse]
        exact q1
      · have e : decide (0 < left.getD (turn.getD x 0) 0) = false := by
          rw [← e]; exact decide_eq_decide.mpr (by omega)
        rw [e] at q1
        push_cast [Ev.rn_eRevS, Ev.opRevS, ← List.map_reverse, List.length_reverse]
        exact q1
    have mem : lx n left turn ∈ turn.filter fun x => decide (0 < left.getD (turn.getD x 0) 0) := List.mem_filter.mpr ⟨pt.mem a, decide_eq_true b⟩
    refine rn_min2 mem (fun y hy => ?_) ?_
    · have hy := of_decide_eq_true (List.mem_filter.mp hy).2
      by_cases z : lx n left turn ≤ y
      · exact z
      · have := c y (by omega); omega
    generalize hz : lx n left turn = z at *
    have em : ((left.getD (turn.getD z 0) 0 : Nat) : Int) - 1 = ((left.getD (turn.getD z 0) 0 - 1 : Nat) : Int) := by omega
    have hp2 : turn.getD z 0 < left.length := by omega
    push_cast [Ev.rn_eRevS, Ev.opRevS, ← List.map_reverse, List.length_reverse, at_list (a := turn) (k := z) (by omega)]
    rw [Int.toNat_natCast, get_iD hp2]
    push_cast [Ev.rn_eRevS, Ev.opRevS, ← List.map_reverse, List.length_reverse, at_mat a]
    refine ⟨⟨by omega, by omega, by omega⟩, by omega, by omega, ?_⟩
    refine after_rn t (b := (List.range n).map (f z)) (fun w hw => by rw [ltu]; exact (r.row a).lt hw) (by simp; omega) ?_
    obtain ⟨k, ek⟩ : ∃ k, h.sum - i = k + 1 := ⟨h.sum - i - 1, by omega⟩
    rw [em, at_set]
    refine ⟨rfl, found ++ [z], dn left turn z, aft turn ((List.range n).map (f z)), .dat e, .dat (iD z), by rw [dn_len, ll], pt.aft (r.row a), ?_, by simp; omega, (fun d e => by cases e), ?_, ?_⟩
    · have := dn_sum (h := left) (t := turn) (x := z) b (S := k) (by omega)
      omega
    · rw [ef, ek, show h.sum - (i + 1) = k by omega]
      show found ++ (lx n left turn :: fR n (mat n f) (dn left turn (lx n left turn)) (aft turn ((mat n f).getD (lx n left turn) [])) k) = _
      rw [hz, mat_getD a, List.append_assoc]; rfl
    · rw [List.map_append]; rfl
  · obtain ⟨rfl, found, left, turn, x5, x6, ll, pt, hs, fl, ho6, ef, rfl⟩ := hI
    rw [List.length_map, List.length_range, Nat.sub_self] at ef
    rw [List.length_map, List.length_range] at fl
    push_cast [Ev.rn_eRevS, Ev.opRevS, ← List.map_reverse, List.length_reverse]
    have ef : fR n (mat n f) h (rg n) h.sum = found := by rw [ef]; exact List.append_nil _
    rw [ef] at q
    exact q
end
end K15
/-! from K15R2.lean -/
set_option maxRecDepth 100000
set_option maxHeartbeats 1000000
namespace K15
open PySem Ev Fit
theorem enum_at {h : List Nat} {i : Nat} {d : D} (q : (enumD 0 (h.map iD))[i]? = some d) : ∃ hi : i < h.length, d = .tup [.int (i : Nat), .int (h[i] : Nat)] := by
  rw [enumD_at, List.getElem?_map] at q
  have hi : i < h.length := by
    by_cases z : i < h.length
    · exact z
    · rw [List.getElem?_eq_none (by omega)] at q; cases q
  rw [List.getElem?_eq_getElem hi, Nat.zero_add] at q
  exact ⟨hi, (Option.some.inj q).symm⟩
section
variable {n : Nat} {f g : Nat → Nat → Nat}
theorem is_heap_run (s : SD) (hn : n ≤ 1000) {h : List Nat} (hl : h.length = n) {Q : D → SD → Prop} (q : Q (.bl true) s) : (F_is_heap [tD h, .int (n : Nat)]).rn s Q noX := by
  unfold F_is_heap b_is_heap
  push_cast [Ev.rn_eRevS, Ev.opRevS, ← List.map_reverse, List.length_reverse]
  refine ⟨by omega, ⟨by rw [hl]; exact iD_ok, iD_ok⟩, ?_⟩
  have e : D.eqv (.int ((h.length : Nat) : Int)) (.int (n : Nat)) = true := by rw [hl]; exact D.eqv_self iD_ok
  rw [e]
  push_cast [Ev.rn_eRevS, Ev.opRevS, ← List.map_reverse, List.length_reverse]
  refine all_true (I := fun Γ => ∃ x, Γ = [.dat (tD h), .dat (.int (n : Nat)), x]) (fun d hd Γ hI Q1 q1 => ?_) ⟨_, rfl⟩ fun Γ hI => ?_
  · obtain ⟨x, rfl⟩ := hI
    obtain ⟨y, hy, rfl⟩ := List.mem_map.mp hd
    push_cast [Ev.rn_eRevS, Ev.opRevS, ← List.map_reverse, List.length_reverse]
    refine is_integer_run s y ?_
    push_cast [Ev.rn_eRevS, Ev.opRevS, ← List.map_reverse, List.length_reverse]
    exact q1 _ ⟨_, rfl⟩
  · obtain ⟨x, rfl⟩ := hI
    push_cast [Ev.rn_eRevS, Ev.opRevS, ← List.map_reverse, List.length_reverse]
    exact q
theorem is_full_run (s : SD) (hn : n ≤ 1000) {h : List Nat} (hl : h.length = n) {Q : D → SD → Prop} (q : Q (.bl true) s) : (F_is_full_heap [tD h, .int (n : Nat)]).rn s Q noX := by
  unfold F_is_full_heap b_is_full_heap
  push_cast [Ev.rn_eRevS, Ev.opRevS, ← List.map_reverse, List.length_reverse]
  refine is_heap_run s hn hl ?_
  push_cast [Ev.rn_eRevS, Ev.opRevS, ← List.map_reverse, List.length_reverse]
  refine all_true (I := fun Γ => ∃ x, Γ = [.dat (tD h), .dat (.int (n : Nat)), x]) (fun d hd Γ hI Q1 q1 => ?_) ⟨_, rfl⟩ fun Γ hI => ?_
  · obtain ⟨x, rfl⟩ := hI
    obtain ⟨y, hy, rfl⟩ := List.mem_map.mp hd
    push_cast [Ev.rn_eRevS, Ev.opRevS, ← List.map_reverse, List.length_reverse]
    rw [decide_eq_true (show ((y : Nat) : Int) ≥ 0 by omega)]
    exact q1 _ ⟨_, rfl⟩
  · obtain ⟨x, rfl⟩ := hI
    push_cast [Ev.rn_eRevS, Ev.opRevS, ← List.map_reverse, List.length_reverse]
    exact q
theorem first_row_run (s : SD) (h1 : 1 ≤ n) (hn : n ≤ 8) (r : Rl n f g) {h : List Nat} (hl : h.length = n) (hS : h.sum ≤ 1000) {Q : D → SD → Prop} (q : Q (tD (fR n (mat n f) h (rg n) h.sum)) s) : (F_first_row [tbD n f g, tD h]).rn s Q noX := by
  have e0 : tbD n f g = .tup ((List.range n).map (tbR n f g)) := rfl
  unfold F_first_row b_first_row
  push_cast [Ev.rn_eRevS, Ev.opRevS, ← List.map_reverse, List.length_reverse]
  refine need_rule_run s h1 hn r ?_
  push_cast [Ev.rn_eRevS, Ev.opRevS, ← List.map_reverse, List.length_reverse, e0]
  refine ⟨by omega, is_full_run s (by omega) hl ?_⟩
  rw [← e0]
  push_cast [Ev.rn_eRevS, Ev.opRevS, ← List.map_reverse, List.length_reverse]
  refine lefts_of_run s (by omega) ?_
  push_cast [Ev.rn_eRevS, Ev.opRevS, ← List.map_reverse, List.length_reverse]
  refine first_by_run s (by omega) r hl hS ?_
  push_cast [Ev.rn_eRevS, Ev.opRevS, ← List.map_reverse, List.length_reverse]
  exact q
/-- the law's own look -/
theorem is_least_run (s : SD) (hn : n ≤ 1000) (r : Rl n f g) {h : List Nat} (hl : h.length = n) (hS : h.sum ≤ 1000) {Q : D → SD → Prop} (q : Q (.bl true) s) :
    (F__law_is_least [.lst ((mat n f).map tD), tD h, tD (fR n (mat n f) h (rg n) h.sum)]).rn s Q noX := by
  have len := fR_len (n := n) (mat n f) h.sum h (rg n)
  have eL : D.eqv (.int (((fR n (mat n f) h (rg n) h.sum).length : Nat) : Int)) (.int (h.sum : Nat)) = true := by rw [len]; exact D.eqv_self iD_ok
  unfold F__law_is_least b__law_is_least
  push_cast [Ev.rn_eRevS, Ev.opRevS, ← List.map_reverse, List.length_reverse, rn_eOp, rn_sumT]
  refine ⟨by omega, ⟨by omega, by omega⟩, ⟨by omega, by omega, by omega, by omega⟩, by omega, ⟨iD_ok, iD_ok⟩, ?_⟩
  rw [eL]
  generalize hrow : fR n (mat n f) h (rg n) h.sum = row at *
  push_cast [Ev.rn_eRevS, Ev.opRevS, ← List.map_reverse, List.length_reverse]
  refine for_rn (I := fun i Γ t => t = s ∧ ∃ found left turn x5 x6, left.length = n ∧ Pm n turn ∧ left.sum = h.sum - i ∧ found.length = i ∧ (∀ d, x6 ≠ .own d) ∧ row = found ++ fR n (mat n f) left turn (h.sum - i) ∧ Γ = [.dat (.lst ((mat n f).map tD)), .dat (tD h), .dat (tD row), .dat (tD turn), .own (.lst (left.map iD)), x5, x6]) (fun i e Γ t he hI => ?_) (fun Γ t hI => ?_) _ _ ⟨rfl, [], h, rg n, _, _, hl, Pm.range n, rfl, rfl, (fun d e => by cases e), hrow.symm, rfl⟩
  · obtain ⟨rfl, found, left, turn, x5, x6, ll, pt, hs, fl, ho6, ef, rfl⟩ := hI
    obtain ⟨hi, rfl, et⟩ := nat_at he
    have hi2 : i < h.sum := by omega
    have hpos : 0 < left.sum := by omega
    obtain ⟨a, b, c⟩ := lx_spec ll pt hpos
    have hp := pt.b _ a
    have ltu := pt.len
    obtain ⟨k, ek⟩ : ∃ k, h.sum - i = k + 1 := ⟨h.sum - i - 1, by omega⟩
    have ex : row[i] = lx n left turn := by
      have : row[i]? = some (lx n left turn) := by
        rw [ef, ek, List.getElem?_append_right (by omega), show i - found.length = 0 by omega]; rfl
      rw [List.getElem?_eq_getElem hi] at this
      exact Option.some.inj this
    rw [ex]
    generalize hz : lx n left turn = z at *
    have hp2 : turn.getD z 0 < left.length := by omega
    have e0 : D.eqv (.int ((left.getD (turn.getD z 0) 0 : Nat) : Int)) (.int 0) = false := by
      refine (iDeq (left.getD (turn.getD z 0) 0) 0).trans ?_
      exact beq_eq_false_iff_ne.mpr (by omega)
    push_cast [Ev.rn_eRevS, Ev.opRevS, ← List.map_reverse, List.length_reverse, at_list (a := turn) (k := z) (by omega), at_list (a := left) hp2]
    rw [decide_eq_true (show (0 : Int) ≤ (z : Int) by omega)]
    push_cast [Ev.rn_eRevS, Ev.opRevS, ← List.map_reverse, List.length_reverse]
    refine ⟨by omega, ?_⟩
    rw [decide_eq_true (show (z : Int) < (n : Int) by omega)]
    push_cast [Ev.rn_eRevS, Ev.opRevS, ← List.map_reverse, List.length_reverse, at_list (a := turn) (k := z) (by omega), at_list (a := left) hp2]
    rw [e0]
    push_cast [Ev.rn_eRevS, Ev.opRevS, ← List.map_reverse, List.length_reverse]
    have hv : left.getD (turn.getD z 0) 0 ≤ 1000 := by
      have := le_sum (l := left) (x := left.getD (turn.getD z 0) 0) (by
        rw [List.getD_eq_getElem?_getD, List.getElem?_eq_getElem hp2]; exact List.getElem_mem hp2)
      omega
    refine ⟨⟨iD_ok, iD_ok (k := 0)⟩, ⟨by omega, by omega⟩, ⟨by cases x6 <;> first | rfl | exact absurd rfl (ho6 _), by omega⟩, ?_⟩
    refine lc_filt (c := iD) (h := fun _ => .int 1) (p := fun x => decide (0 < left.getD (turn.getD x 0) 0)) (fun x hx Q1 q1 => ?_) ?_
    · have hx : x < n := by have := List.mem_range.mp hx; omega
      have hpx := pt.b x hx
      push_cast [Ev.rn_eRevS, Ev.opRevS, ← List.map_reverse, List.length_reverse, at_list (a := turn) (k := x) (by omega), at_list (a := left) (k := turn.getD x 0) (by omega)]
      refine ⟨fun e => ?_, fun e => ?_⟩
      · have e : decide (0 < left.getD (turn.getD x 0) 0) = true := by
          rw [← e]; exact decide_eq_decide.mpr (by omega)
        rw [e] at q1
        push_cast [Ev.rn_eRevS, Ev.opRevS, ← List.map_reverse, List.length_reverse]
        exact q1
      · have e : decide (0 < left.getD (turn.getD x 0) 0) = false := by
          rw [← e]; exact decide_eq_decide.mpr (by omega)
        rw [e] at q1
        push_cast [Ev.rn_eRevS, Ev.opRevS, ← List.map_reverse, List.length_reverse]
        exact q1
    have en : ((List.range z).filter fun x => decide (0 < left.getD (turn.getD x 0) 0)) = [] := by
      refine List.filter_eq_nil_iff.mpr fun x hx => ?_
      have := c x (List.mem_range.mp hx)
      rw [this]; decide
    rw [en]
    have e00 : D.eqv (.lst []) (.lst []) = true := rfl
    have em : ((left.getD (turn.getD z 0) 0 : Nat) : Int) - 1 = ((left.getD (turn.getD z 0) 0 - 1 : Nat) : Int) := by omega
    push_cast [Ev.rn_eRevS, Ev.opRevS, ← List.map_reverse, List.length_reverse, e00]
    refine ⟨by decide, ⟨rfl, rfl⟩, ?_⟩
    push_cast [Ev.rn_eRevS, Ev.opRevS, ← List.map_reverse, List.length_reverse, at_list (a := turn) (k := z) (by omega), at_list (a := left) hp2, em, at_mat a]
    refine ⟨⟨by omega, by omega, by omega⟩, ?_⟩
    refine law_afterN t turn ((List.range n).map (f z)) _ (fun w hw => by rw [ltu]; exact (r.row a).lt hw) (by simp; omega) ?_
    rw [Int.toNat_natCast, at_set]
    refine ⟨rfl, found ++ [z], dn left turn z, aft turn ((List.range n).map (f z)), .dat (iD z), x6, by rw [dn_len, ll], pt.aft (r.row a), ?_, by simp; omega, ho6, ?_, rfl⟩
    · have := dn_sum (h := left) (t := turn) (x := z) b (S := k) (by omega)
      omega
    · rw [ek] at ef
      have e9 : fR n (mat n f) left turn (k + 1) = z :: fR n (mat n f) (dn left turn z) (aft turn ((List.range n).map (f z))) k := by
        show lx n left turn :: fR n (mat n f) (dn left turn (lx n left turn)) (aft turn ((mat n f).getD (lx n left turn) [])) k = _
        rw [hz, mat_getD a]
      rw [e9] at ef
      rw [show h.sum - (i + 1) = k by omega, List.append_assoc]
      exact ef
  · obtain ⟨rfl, found, left, turn, x5, x6, ll, pt, hs, fl, ho6, ef, rfl⟩ := hI
    push_cast [Ev.rn_eRevS, Ev.opRevS, ← List.map_reverse, List.length_reverse]
    exact q
/-- a heap's kinds in a row: the blocks -/
def blk (c : Nat → Nat) (i : Nat) : List Nat := ((List.range i).map fun y => List.replicate (c y) y).flatten
theorem blk_succ (c : Nat → Nat) (i : Nat) : blk c (i + 1) = blk c i ++ List.replicate (c i) i := by
  unfold blk
  rw [List.range_succ, List.map_append, List.flatten_append]
  simp
theorem blk_count (c : Nat → Nat) : ∀ (i y : Nat), (blk c i).count y = if y < i then c y else 0
  | 0, y => by rw [if_neg (by omega)]; rfl
  | i + 1, y => by
    rw [blk_succ, List.count_append, blk_count c i y, List.count_replicate]
    by_cases e : y = i
    · subst e
      rw [if_neg (Nat.lt_irrefl _), if_pos (Nat.lt_succ_self _)]; simp
    · rw [if_neg (c := (i == y) = true) (by simpa using fun z => e z.symm)]
      by_cases l : y < i
      · rw [if_pos l, if_pos (by omega)]; rfl
      · rw [if_neg l, if_neg (by omega)]
theorem blk_len (h : List Nat) : ∀ {i : Nat}, i ≤ h.length → (blk (fun y => h.getD y 0) i).length = (h.take i).sum
  | 0, _ => rfl
  | i + 1, hi => by
    rw [blk_succ, List.length_append, List.length_replicate, blk_len h (by omega), List.take_succ, sum_app, List.getElem?_eq_getElem (by omega)]
    show _ + h.getD i 0 = _ + ([h[i]] : List Nat).sum
    rw [List.getD_eq_getElem?_getD, List.getElem?_eq_getElem (by omega)]; simp
theorem rep_one (k : Nat) (x : D) : (List.replicate k [x]).flatten = List.replicate k x := by
  induction k with
  | zero => rfl
  | succ k ih => rw [List.replicate_succ, List.flatten_cons, ih, List.replicate_succ]; rfl
theorem line_run (s : SD) {h : List Nat} (hS : h.sum ≤ 1000) (hl : h.length ≤ 1000) {Q : D → SD → Prop} (q : Q (tD (blk (fun y => h.getD y 0) h.length)) s) : (F__law_line [tD h]).rn s Q noX := by
  unfold F__law_line b__law_line
  push_cast [Ev.rn_eRevS, Ev.opRevS, ← List.map_reverse, List.length_reverse, rn_wEn, seqOf]
  walk_at "nq"
  refine for_rn (I := fun i Γ t => t = s ∧ i ≤ h.length ∧ ∃ x2 x3, Γ = [.dat (tD h), .own (.lst ((blk (fun y => h.getD y 0) i).map iD)), x2, x3]) (fun i e Γ t he hI => ?_) (fun Γ t hI => ?_) _ _ ⟨rfl, Nat.zero_le _, _, _, rfl⟩
  · obtain ⟨rfl, _, x2, x3, rfl⟩ := hI
    obtain ⟨hi, rfl⟩ := enum_at he
    have hb := blk_len h (Nat.le_of_lt hi)
    have hb2 : (h.take i).sum ≤ h.sum := by
      conv => rhs; rw [← List.take_append_drop i h]
      rw [sum_app]; omega
    have hv : h[i] ≤ h.sum := le_sum (List.getElem_mem hi)
    have eg : h.getD i 0 = h[i] := by rw [List.getD_eq_getElem?_getD, List.getElem?_eq_getElem hi]; rfl
    push_cast [Ev.rn_eRevS, Ev.opRevS, ← List.map_reverse, List.length_reverse]
    rw [Int.toNat_natCast, rep_one, List.length_replicate]
    refine ⟨by omega, ⟨by omega, by omega, by omega⟩, ⟨by omega, by omega⟩, by omega, .dat (.int (i : Nat)), .dat (.int (h[i] : Nat)), ?_⟩
    rw [blk_succ, List.map_append, eg, List.map_replicate]
  · obtain ⟨rfl, _, x2, x3, rfl⟩ := hI
    rw [enumD_len, List.length_map]
    push_cast [Ev.rn_eRevS, Ev.opRevS, ← List.map_reverse, List.length_reverse]
    exact q
end
end K15
/-! from K15R3.lean -/
set_option maxRecDepth 100000
set_option maxHeartbeats 1000000
namespace K15
open PySem Ev Fit
section
variable {n : Nat} {f g : Nat → Nat → Nat}
/-- the row of an order that is a list -/
theorem law_writtenL (s : SD) (hn : n ≤ 1000) (r : Rl n f g) {o : List Nat} (ho : ∀ x ∈ o, x < n) (hl : o.length ≤ 1000) {Q : D → SD → Prop} (q : Q (tD (wrR (mat n f) o (rg n))) s) :
    (F__law_written [.lst ((mat n f).map tD), .lst (o.map iD)]).rn s Q noX := by
  unfold F__law_written b__law_written
  push_cast [Ev.rn_bind]
  walk_at "nq"
  refine for_rn (I := fun i Γ t => t = s ∧ ∃ x y : Sl, Γ = [.dat (.lst ((mat n f).map tD)), .dat (.lst (o.map iD)), .dat (tD (wrT (mat n f) (o.take i) (rg n))), .own (.lst ((wrR (mat n f) (o.take i) (rg n)).map iD)), x, y]) (fun i d Γ t hd hI => ?_) (fun Γ t hI => ?_) _ _ ⟨rfl, _, _, rfl⟩
  · obtain ⟨rfl, x0, y0, rfl⟩ := hI
    obtain ⟨hi, rfl, et⟩ := nat_at hd
    have hx : o[i] < n := ho _ (List.getElem_mem hi)
    have hT := wrT_pm r (o.take i) (rg n) (fun y hy => ho y (List.mem_of_mem_take hy)) (Pm.range n)
    have hb := hT.b' _ hx
    push_cast [place_pm hT hx, at_mat hb, wrR_len]
    refine ⟨⟨hT.ok hn, iD_ok⟩, by simp; omega, ?_⟩
    refine law_afterN t _ ((List.range n).map (f _)) _ (fun y hy => ?_) (by walk_at "om") ?_
    · rw [hT.len]; exact (r.row hb).lt hy
    push_cast [Ev.rn_bind]
    refine ⟨.dat (iD o[i]), .dat (iD ((wrT (mat n f) (o.take i) (rg n)).idxOf o[i])), ?_⟩
    rw [et, wrT_snoc, wrR_snoc, List.map_append, mat_getD hb]
    rfl
  · obtain ⟨rfl, x0, y0, rfl⟩ := hI
    simp only [List.length_map, List.take_length]
    push_cast [Ev.rn_bind]
    exact q
theorem enum_map {h : List Nat} (hl : h.length = n) : enumD 0 (h.map iD) = (List.range n).map fun y => D.tup [.int (y : Nat), .int (h.getD y 0 : Nat)] := by
  refine List.ext_getElem? fun i => ?_
  rw [enumD_at, List.getElem?_map, List.getElem?_map, Nat.zero_add]
  by_cases hi : i < n
  · rw [List.getElem?_eq_getElem (show i < h.length by omega), List.getElem?_range hi]
    show some (D.tup [.int (i : Nat), .int (h[i] : Nat)]) = some (D.tup [.int (i : Nat), .int (h.getD i 0 : Nat)])
    rw [List.getD_eq_getElem?_getD, List.getElem?_eq_getElem (show i < h.length by omega)]; rfl
  · rw [List.getElem?_eq_none (by omega), List.getElem?_eq_none (by simpa using hi)]; rfl
/-- one item more -/
def mor (n : Nat) (h row : List Nat) : List (List Nat) := ((List.range n).filter fun y => decide (row.count y < h.getD y 0)).map fun y => row ++ [y]
theorem mor_len {h row : List Nat} : (mor n h row).length ≤ n := by
  unfold mor
  rw [List.length_map]
  have := List.length_filter_le (fun y => decide (row.count y < h.getD y 0)) (List.range n)
  rwa [List.length_range] at this
theorem flat_len {h : List Nat} : ∀ l : List (List Nat), (l.flatMap (mor n h)).length ≤ l.length * n
  | [] => by simp
  | a :: l => by
    rw [List.flatMap_cons, List.length_append, List.length_cons, Nat.succ_mul]
    have := flat_len (h := h) l
    have := mor_len (n := n) (h := h) (row := a)
    omega
theorem ords_le {h : List Nat} : ∀ k, (ords n h k).length ≤ n ^ k
  | 0 => Nat.le_refl _
  | k + 1 => by
    have := flat_len (n := n) (h := h) (ords n h k)
    rw [Nat.pow_succ]
    exact Nat.le_trans this (Nat.mul_le_mul_right _ (ords_le k))
theorem orders_step (t : SD) (hn : n ≤ 8) {h : List Nat} (hl : h.length = n) (hS : h.sum ≤ 1000) {rows : List (List Nat)} (hr : ∀ row ∈ rows, (∀ y ∈ row, y < n) ∧ row.length ≤ 1000) (hlr : rows.length ≤ 100000) {x2 x4 x5 x6 : Sl} (ho5 : ∀ d, x5 ≠ .own d) (ho6 : ∀ d, x6 ≠ .own d) {Q : Fl → SD → Prop}
    (q : ∀ x4 x5 x6, (∀ d, x5 ≠ Sl.own d) → (∀ d, x6 ≠ Sl.own d) → Q (.nx [.dat (tD h), .dat (.lst (rows.map tD)), x2, .own (.lst ((rows.flatMap (mor n h)).map tD)), x4, x5, x6]) t) :
    (forLoop (forB (.name 4) (cCons (cDrop (eExt 3 (eLc [5, 6] (.pair (.name 5) (.name 6)) (wEn (eVar 0)) (qVal (eCmp .lt (eMeth .count (eVar 4) (eVar 5)) (eVar 6))) (eBin .add (eVar 4) (eTup (sCons (eVar 5) sNil)))))) cNil)) (rows.map tD) [.dat (tD h), .dat (.lst (rows.map tD)), x2, .own (.lst []), x4, x5, x6]).rn t Q noX := by
  refine for_rn (I := fun j Γ u => u = t ∧ ∃ x4 x5 x6, (∀ d, x5 ≠ .own d) ∧ (∀ d, x6 ≠ .own d) ∧ Γ = [.dat (tD h), .dat (.lst (rows.map tD)), x2, .own (.lst (((rows.take j).flatMap (mor n h)).map tD)), x4, x5, x6]) (fun j e2 Γ u he2 hI => ?_) (fun Γ u hI => ?_) _ _ ⟨rfl, _, _, _, ho5, ho6, rfl⟩
  · obtain ⟨rfl, x4, x5, x6, ho5, ho6, rfl⟩ := hI
    rw [List.getElem?_map] at he2
    have hj : j < rows.length := by
      by_cases z : j < rows.length
      · exact z
      · rw [List.getElem?_eq_none (by omega)] at he2; cases he2
    rw [List.getElem?_eq_getElem hj] at he2
    have he2 := Option.some.inj he2
    subst he2
    obtain ⟨hr1, hr2⟩ := hr _ (List.getElem_mem hj)
    have et : rows.take (j + 1) = rows.take j ++ [rows[j]] := by
      rw [List.take_succ, List.getElem?_eq_getElem hj]; rfl
    have hb := flat_len (n := n) (h := h) (rows.take j)
    have hb2 : (rows.take j).length * n ≤ 100000 * 8 := Nat.mul_le_mul (by rw [List.length_take]; omega) hn
    have hb3 := mor_len (n := n) (h := h) (row := rows[j])
    generalize rows[j] = row at *
    push_cast [Ev.rn_eRevS, Ev.opRevS, ← List.map_reverse, List.length_reverse, rn_wEn, seqOf, enum_map hl]
    refine ⟨⟨by cases x5 <;> first | exact absurd rfl (ho5 _) | (cases x6 <;> first | rfl | exact absurd rfl (ho6 _)), by omega⟩, ?_⟩
    refine lc_filt (h := fun y => tD (row ++ [y])) (p := fun y => decide (row.count y < h.getD y 0)) (fun y hy Q1 q1 => ?_) ?_
    · have hy := List.mem_range.mp hy
      push_cast [Ev.rn_eRevS, Ev.opRevS, ← List.map_reverse, List.length_reverse, count_iD]
      refine ⟨⟨tD_ok fun z hz => by have := hr1 z hz; omega, iD_ok⟩, fun e => ?_, fun e => ?_⟩
      · have e : decide (row.count y < h.getD y 0) = true := by
          rw [← e]; exact decide_eq_decide.mpr (by omega)
        rw [e] at q1
        have ea : row.map iD ++ [D.int (y : Nat)] = (row ++ [y]).map iD := by rw [List.map_append]; rfl
        push_cast [Ev.rn_eRevS, Ev.opRevS, ← List.map_reverse, List.length_reverse, ea]
        exact ⟨by decide, ⟨by omega, by decide⟩, q1⟩
      · have e : decide (row.count y < h.getD y 0) = false := by
          rw [← e]; exact decide_eq_decide.mpr (by omega)
        rw [e] at q1
        push_cast [Ev.rn_eRevS, Ev.opRevS, ← List.map_reverse, List.length_reverse]
        exact q1
    · have hf : ((List.range n).filter fun y => decide (row.count y < h.getD y 0)).length ≤ n := by
        have := List.length_filter_le (fun y => decide (row.count y < h.getD y 0)) (List.range n)
        rwa [List.length_range] at this
      push_cast [Ev.rn_eRevS, Ev.opRevS, ← List.map_reverse, List.length_reverse]
      refine ⟨⟨by omega, by omega⟩, .dat (tD row), x5, x6, ho5, ho6, ?_⟩
      rw [et, List.flatMap_append, List.map_append, List.flatMap_cons, List.flatMap_nil, List.append_nil, mor, List.map_map]
      rfl
  · obtain ⟨rfl, x4, x5, x6, ho5, ho6, rfl⟩ := hI
    rw [List.length_map, List.take_length]
    exact q x4 x5 x6 ho5 ho6
theorem orders_run (s : SD) (hn : n ≤ 8) {h : List Nat} (hl : h.length = n) (hS : h.sum ≤ 5) {Q : D → SD → Prop} (q : Q (.lst ((ords n h h.sum).map tD)) s) : (F__law_orders [tD h]).rn s Q noX := by
  have bd : ∀ k, k ≤ 5 → (ords n h k).length ≤ 32768 := fun k hk => by
    refine Nat.le_trans (ords_le k) (Nat.le_trans (Nat.pow_le_pow_left hn k) ?_)
    exact Nat.le_trans (Nat.pow_le_pow_right (by decide) hk) (by decide)
  unfold F__law_orders b__law_orders
  push_cast [Ev.rn_eRevS, Ev.opRevS, ← List.map_reverse, List.length_reverse, rn_eOp, rn_sumT]
  walk_at "nq"
  refine for_rn (I := fun i Γ t => t = s ∧ i ≤ h.sum ∧ ∃ x1 x2 x3 x4 x5 x6, (x1 = .own (.lst ((ords n h i).map tD)) ∨ x1 = .dat (.lst ((ords n h i).map tD))) ∧ (∀ d, x5 ≠ .own d) ∧ (∀ d, x6 ≠ .own d) ∧ Γ = [.dat (tD h), x1, x2, x3, x4, x5, x6]) (fun i e Γ t he hI => ?_) (fun Γ t hI => ?_) _ _ ⟨rfl, Nat.zero_le _, _, _, _, _, _, _, .inl rfl, (fun d e => by cases e), (fun d e => by cases e), rfl⟩
  · obtain ⟨rfl, _, x1, x2, x3, x4, x5, x6, hx1, ho5, ho6, rfl⟩ := hI
    rw [List.getElem?_map] at he
    have hi : i < h.sum := by
      by_cases z : i < h.sum
      · exact z
      · rw [List.getElem?_eq_none (by simpa using z)] at he; cases he
    have hr : ∀ row ∈ ords n h i, (∀ y ∈ row, y < n) ∧ row.length ≤ 1000 := fun row hm => by
      obtain ⟨a, b, _⟩ := ords_mem hm
      exact ⟨b, by omega⟩
    have hb := bd i (by omega)
    rcases hx1 with rfl | rfl
    · push_cast [Ev.rn_eRevS, Ev.opRevS, ← List.map_reverse, List.length_reverse]
      refine ⟨by decide, ?_⟩
      refine orders_step t hn hl (by omega) hr (by omega) ho5 ho6 fun x4 x5 x6 ho5 ho6 => ?_
      push_cast [Ev.rn_eRevS, Ev.opRevS, ← List.map_reverse, List.length_reverse]
      exact ⟨by omega, _, _, _, _, _, _, .inr rfl, ho5, ho6, rfl⟩
    · push_cast [Ev.rn_eRevS, Ev.opRevS, ← List.map_reverse, List.length_reverse]
      refine ⟨by decide, ?_⟩
      refine orders_step t hn hl (by omega) hr (by omega) ho5 ho6 fun x4 x5 x6 ho5 ho6 => ?_
      push_cast [Ev.rn_eRevS, Ev.opRevS, ← List.map_reverse, List.length_reverse]
      exact ⟨by omega, _, _, _, _, _, _, .inr rfl, ho5, ho6, rfl⟩
  · obtain ⟨rfl, _, x1, x2, x3, x4, x5, x6, hx1, ho5, ho6, rfl⟩ := hI
    rw [List.length_map, List.length_range] at hx1
    rcases hx1 with rfl | rfl
    · push_cast [Ev.rn_eRevS, Ev.opRevS, ← List.map_reverse, List.length_reverse]
      exact q
    · push_cast [Ev.rn_eRevS, Ev.opRevS, ← List.map_reverse, List.length_reverse]
      exact q
end
end K15
/-! from K15R4.lean -/
set_option maxRecDepth 100000
set_option maxHeartbeats 1000000
namespace K15
open PySem Ev Fit
theorem perm_sum {l m : List Nat} (p : l.Perm m) : l.sum = m.sum := by
  induction p with
  | nil => rfl
  | cons x _ ih => rw [List.sum_cons, List.sum_cons, ih]
  | swap x y l => simp only [List.sum_cons]; omega
  | trans _ _ a b => rw [a, b]
theorem sum_one {p v : Nat} : ∀ n : Nat, ((List.range n).map fun y => if y = p then v else 0).sum ≤ v
  | 0 => Nat.zero_le _
  | n + 1 => by
    rw [List.range_succ, List.map_append, sum_app]
    by_cases e : n = p
    · have z : ((List.range n).map fun y => if y = p then v else 0).sum = 0 := sum0 fun x hx => by
        obtain ⟨y, hy, rfl⟩ := List.mem_map.mp hx
        have := List.mem_range.mp hy
        exact if_neg (by omega)
      rw [z]; simp [e]
    · have := sum_one (p := p) (v := v) n
      simp [e]; exact this
theorem at_last {l : List D} {d : D} : at? (l ++ [d]) (-1) = some d := by
  have e : L2.ixN (l ++ [d]).length (-1) = some l.length := by
    unfold L2.ixN
    rw [if_neg (by decide), List.length_append]
    simp
    omega
  unfold at? L2.atI
  rw [e]
  show (l ++ [d])[l.length]? = some d
  simp
theorem sum_rep (k v : Nat) : (List.replicate k v).sum = k * v := by
  induction k with
  | zero => simp
  | succ k ih => rw [List.replicate_succ, List.sum_cons, ih, Nat.succ_mul]; omega
section
variable {n : Nat} {f g : Nat → Nat → Nat}
theorem law_readL (s : SD) (hn : n ≤ 1000) (r : Rl n f g) {row : List Nat} (hr : ∀ x ∈ row, x < n) (hl : row.length ≤ 1000) {Q : D → SD → Prop} (q : Q (.tup [tD (rdO (mat n f) row (rg n)), tD (rdT (mat n f) row (rg n))]) s) :
    (F__law_read [.lst ((mat n f).map tD), .lst (row.map iD)]).rn s Q noX := by
  unfold F__law_read b__law_read
  push_cast [Ev.rn_bind]
  walk_at "nq"
  refine for_rn (I := fun i Γ t => t = s ∧ ∃ x : Sl, Γ = [.dat (.lst ((mat n f).map tD)), .dat (.lst (row.map iD)), .dat (tD (rdT (mat n f) (row.take i) (rg n))), .own (.lst ((rdO (mat n f) (row.take i) (rg n)).map iD)), x]) (fun i d Γ t hd hI => ?_) (fun Γ t hI => ?_) _ _ ⟨rfl, _, rfl⟩
  · obtain ⟨rfl, x0, rfl⟩ := hI
    obtain ⟨hi, rfl, et⟩ := nat_at hd
    have hx : row[i] < n := hr _ (List.getElem_mem hi)
    have hT := rdT_pm r (row.take i) (rg n) (fun y hy => hr y (List.mem_of_mem_take hy)) (Pm.range n)
    push_cast [at_list (a := rdT (mat n f) (row.take i) (rg n)) (k := row[i]) (by rw [hT.len]; exact hx), at_mat hx, rdO_len]
    refine ⟨by simp; omega, ?_⟩
    refine law_afterN t _ ((List.range n).map (f _)) _ (fun y hy => ?_) (by walk_at "om") ?_
    · rw [hT.len]; exact (r.row hx).lt hy
    push_cast [Ev.rn_bind]
    refine ⟨.dat (iD row[i]), ?_⟩
    rw [et, rdT_snoc, rdO_snoc, List.map_append, mat_getD hx]
    rfl
  · obtain ⟨rfl, x0, rfl⟩ := hI
    simp only [List.length_map, List.take_length]
    push_cast [Ev.rn_bind]
    exact ⟨by decide, q⟩
theorem drawn_run {a : Addr} {s : SD} (hs : Dk a s) (h1 : 1 ≤ n) (hn : n ≤ 8) (r : Rl n f g) (most : Nat) (hm : most ≤ 100) {Q : D → SD → Prop} (q : ∀ (h : List Nat) t, h.length = n → h.sum ≤ most → Dk a t → Q (tD h) t) :
    (F__law_drawn [.ref a, .lst ((mat n f).map tD), .int (most : Nat)]).rn s Q noX := by
  unfold F__law_drawn b__law_drawn
  push_cast [Ev.rn_eRevS, Ev.opRevS, ← List.map_reverse, List.length_reverse]
  refine ⟨by omega, ?_⟩
  refine draw 4 hs fun way s1 hw hs1 => ?_
  push_cast [Ev.rn_eRevS, Ev.opRevS, ← List.map_reverse, List.length_reverse]
  refine ⟨⟨iD_ok, iD_ok (k := 0)⟩, fun _ => ?_, fun _ => ?_⟩
  · push_cast [Ev.rn_eRevS, Ev.opRevS, ← List.map_reverse, List.length_reverse]
    refine draw n hs1 fun p s2 hp hs2 => ?_
    push_cast [Ev.rn_eRevS, Ev.opRevS, ← List.map_reverse, List.length_reverse, show ((most : Nat) : Int) + 1 = ((most + 1 : Nat) : Int) by omega]
    refine draw (most + 1) hs2 fun v s3 hv hs3 => ?_
    push_cast [Ev.rn_eRevS, Ev.opRevS, ← List.map_reverse, List.length_reverse]
    walk_at "nq"
    refine lc_map (h := fun y => iD (if y = p then v else 0)) (fun y hy Q1 q1 => ?_) ?_
    · have hy := List.mem_range.mp hy
      push_cast [Ev.rn_eRevS, Ev.opRevS, ← List.map_reverse, List.length_reverse]
      refine ⟨⟨iD_ok, iD_ok⟩, fun e => ?_, fun e => ?_⟩
      · have e : y = p := by
          have := (iDeq y p).symm.trans e
          simpa using this
        rw [if_pos e] at q1
        push_cast [Ev.rn_eRevS, Ev.opRevS, ← List.map_reverse, List.length_reverse]
        exact q1
      · have e : y ≠ p := by
          have := (iDeq y p).symm.trans e
          simpa using this
        rw [if_neg e] at q1
        push_cast [Ev.rn_eRevS, Ev.opRevS, ← List.map_reverse, List.length_reverse]
        exact q1
    push_cast [Ev.rn_eRevS, Ev.opRevS, ← List.map_reverse, List.length_reverse]
    rw [show (List.range n).map (fun y => iD (if y = p then v else 0)) = ((List.range n).map fun y => if y = p then v else 0).map iD by rw [List.map_map]; rfl]
    refine q _ s3 (by simp) ?_ hs3
    have := sum_one (p := p) (v := v) n
    omega
  push_cast [Ev.rn_eRevS, Ev.opRevS, ← List.map_reverse, List.length_reverse]
  refine ⟨⟨iD_ok, iD_ok (k := 1)⟩, ?_⟩
  refine rn_weak (Q' := fun (p : Bool × List Sl) t => t = s1 ∧ (p.1 = true → n ≤ most) ∧ p.2 = [.dat (.ref a), .dat (.lst ((mat n f).map tD)), .dat (.int (most : Nat)), .dat (.int (n : Nat)), .dat (.int (way : Nat)), .no, .no, .no, .no, .no, .no, .no, .no]) ?_ ?_
  · refine ⟨fun _ => ?_, fun _ => ?_⟩
    · push_cast [Ev.rn_eRevS, Ev.opRevS, ← List.map_reverse, List.length_reverse]
      exact fun e => by have := of_decide_eq_true e; omega
    · push_cast [Ev.rn_eRevS, Ev.opRevS, ← List.map_reverse, List.length_reverse]
      exact fun e => by cases e
  rintro ⟨z, Γ⟩ t ⟨rfl, hz, rfl⟩
  cases z with
  | true =>
    have hnm := hz rfl
    have ed : ((most : Nat) : Int).fdiv (n : Nat) = ((most / n : Nat) : Int) := by rw [Int.fdiv_eq_ediv_of_nonneg _ (by omega), Int.natCast_ediv]
    have hdv : most / n ≤ most := Nat.div_le_self _ _
    push_cast [Ev.rn_eRevS, Ev.opRevS, ← List.map_reverse, List.length_reverse, ed, show (1 : Int) + ((most / n : Nat) : Int) = ((1 + most / n : Nat) : Int) by omega]
    have hmul : n * (most / n) ≤ most := Nat.mul_div_le most n
    generalize most / n = m at *
    refine ⟨⟨by omega, by omega⟩, ?_⟩
    refine draw (1 + m) hs1 fun v s2 hv hs2 => ?_
    rw [Int.toNat_natCast, rep_one]
    refine ⟨by decide, ⟨by omega, by omega, by omega⟩, ?_⟩
    have e : List.replicate n (D.int (v : Nat)) = (List.replicate n v).map iD := by rw [List.map_replicate]
    rw [e]
    refine q _ s2 (by simp) ?_ hs2
    rw [sum_rep]
    exact Nat.le_trans (Nat.mul_le_mul_left n (show v ≤ m by omega)) hmul
  | false =>
    push_cast [Ev.rn_eRevS, Ev.opRevS, ← List.map_reverse, List.length_reverse]
    refine ⟨⟨iD_ok, iD_ok (k := 2)⟩, fun _ => ?_, fun _ => ?_⟩
    · push_cast [Ev.rn_eRevS, Ev.opRevS, ← List.map_reverse, List.length_reverse, show ((most : Nat) : Int) + 1 = ((most + 1 : Nat) : Int) by omega]
      refine draw (most + 1) hs1 fun c s2 hc hs2 => ?_
      push_cast [Ev.rn_eRevS, Ev.opRevS, ← List.map_reverse, List.length_reverse]
      walk_at "nq"
      refine drawn_list hs2 h1 (by omega) (fun d hd t ht Q1 q1 => ?_) fun row s3 hr hl hs3 => ?_
      · push_cast [Ev.rn_eRevS, Ev.opRevS, ← List.map_reverse, List.length_reverse]
        refine draw n ht fun j u hj hu => ?_
        push_cast [Ev.rn_eRevS, Ev.opRevS, ← List.map_reverse, List.length_reverse]
        exact q1 j u hj hu
      simp at hl
      push_cast [Ev.rn_eRevS, Ev.opRevS, ← List.map_reverse, List.length_reverse]
      refine law_readL s3 (by omega) r hr.1 (by omega) ?_
      have ho := rdO_lt r row (rg n) hr.1 (Pm.range n)
      have z0 : ∀ x y : D, at? [x, y] 0 = some x := fun _ _ => rfl
      push_cast [Ev.rn_eRevS, Ev.opRevS, ← List.map_reverse, List.length_reverse, z0]
      walk_at "nq"
      refine lc_map (h := fun y => iD ((rdO (mat n f) row (rg n)).count y)) (fun y hy Q1 q1 => ?_) ?_
      · push_cast [Ev.rn_eRevS, Ev.opRevS, ← List.map_reverse, List.length_reverse, count_iD]
        exact ⟨⟨tD_ok fun z hz => by have := ho z hz; omega, iD_ok (by have := List.mem_range.mp hy; omega)⟩, q1⟩
      rw [show (List.range n).map (fun y => iD ((rdO (mat n f) row (rg n)).count y)) = ((List.range n).map fun y => (rdO (mat n f) row (rg n)).count y).map iD by rw [List.map_map]; rfl]
      push_cast [Ev.rn_eRevS, Ev.opRevS, ← List.map_reverse, List.length_reverse]
      refine q _ s3 (by simp) ?_ hs3
      rw [← len_counts ho, rdO_len]
      omega
    · push_cast [Ev.rn_eRevS, Ev.opRevS, ← List.map_reverse, List.length_reverse]
      walk_at "nq"
      refine for_rn (I := fun i Γ t => Dk a t ∧ ∃ (left : Nat) (found : List Nat) (x7 : Sl), found.length = i ∧ found.sum + left = most ∧ Γ = [.dat (.ref a), .dat (.lst ((mat n f).map tD)), .dat (.int (most : Nat)), .dat (.int (n : Nat)), .dat (.int (way : Nat)), .no, .no, x7, .no, .no, .dat (.int (left : Nat)), .own (.lst (found.map iD)), .no]) (fun i e Γ t he hI => ?_) (fun Γ t hI => ?_) _ _ ⟨hs1, most, [], _, rfl, Nat.zero_add _, rfl⟩
      · obtain ⟨ht, left, found, x7, hf, hsum, rfl⟩ := hI
        rw [List.getElem?_map] at he
        have hi : i < n := by
          by_cases z : i < n
          · exact z
          · rw [List.getElem?_eq_none (by simpa using z)] at he; cases he
        push_cast [Ev.rn_eRevS, Ev.opRevS, ← List.map_reverse, List.length_reverse, show (1 : Int) + ((left : Nat) : Int) = ((1 + left : Nat) : Int) by omega]
        refine draw (1 + left) ht fun v t2 hv ht2 => ?_
        have el : at? (found.map iD ++ [D.int (v : Nat)]) (-1) = some (.int (v : Nat)) := at_last
        push_cast [Ev.rn_eRevS, Ev.opRevS, ← List.map_reverse, List.length_reverse, el, show ((left : Nat) : Int) - (v : Nat) = ((left - v : Nat) : Int) by omega]
        refine ⟨by omega, ht2, left - v, found ++ [v], .dat e, by simp; omega, by rw [sum_app]; simp; omega, ?_⟩
        rw [List.map_append]; rfl
      · obtain ⟨ht, left, found, x7, hf, hsum, rfl⟩ := hI
        rw [List.length_map, List.length_range] at hf
        push_cast [Ev.rn_eRevS, Ev.opRevS, ← List.map_reverse, List.length_reverse]
        refine shuffled n ht fun p t2 hp ht2 => ?_
        have hpl := hp.len
        push_cast [Ev.rn_eRevS, Ev.opRevS, ← List.map_reverse, List.length_reverse]
        walk_at "nq"
        refine lc_map (c := iD) (h := fun y => iD (found.getD y 0)) (fun y hy Q1 q1 => ?_) ?_
        · have hy := hp.lt hy
          push_cast [Ev.rn_eRevS, Ev.opRevS, ← List.map_reverse, List.length_reverse, at_list (a := found) (k := y) (by omega)]
          exact q1
        rw [show p.map (fun y => iD (found.getD y 0)) = (p.map fun y => found.getD y 0).map iD by rw [List.map_map]; rfl]
        push_cast [Ev.rn_eRevS, Ev.opRevS, ← List.map_reverse, List.length_reverse]
        refine q _ t2 (by rw [List.length_map, hp.len]) ?_ ht2
        have e1 := perm_sum (hp.perm.map fun y => found.getD y 0)
        rw [← list_nat hf] at e1
        omega
end
end K15
/-! from K15R5.lean -/
set_option maxRecDepth 100000
set_option maxHeartbeats 1000000
namespace K15
open PySem Ev Fit
theorem rn_fact {S : Type} {s : S} {E : Xn → S → Prop} {k : Nat} (hk : k ≤ 200) {Q : Rv → S → Prop} (q : Q (.dat (iD (fc k))) s) : (opFact [.int (k : Nat)] : M S Rv).rn s Q E := by
  refine ⟨⟨by omega, by omega⟩, ?_⟩
  show Q (.dat (.int ((Builtin.Math.factorialNat ((k : Nat) : Int).toNat : Nat) : Int))) s
  rw [Int.toNat_natCast]; exact q
theorem alike_ints : ∀ a b : List Nat, PySem.W.alikeAll (a.map fun (k : Nat) => PyData.int (k : Int)) (b.map fun (k : Nat) => PyData.int (k : Int)) = true
  | [], _ => by rw [List.map_nil, PySem.W.alikeAll]
  | _ :: _, [] => by rw [List.map_nil, List.map_cons, PySem.W.alikeAll]
  | x :: a, y :: b => by
    rw [List.map_cons, List.map_cons, PySem.W.alikeAll, alike_ints a b]
    simp only [PySem.W.alike, Bool.and_self]
theorem alike_rows (rows : List (List Nat)) : PySem.W.AlikeAll (toPs (rows.map tD)) := by
  rw [toPs_map, List.map_map]
  refine ⟨fun x hx y hy => ?_, fun x hx e => ?_⟩
  · obtain ⟨a, _, rfl⟩ := List.mem_map.mp hx
    obtain ⟨b, _, rfl⟩ := List.mem_map.mp hy
    show PySem.W.alike (tD a).toP (tD b).toP = true
    rw [toP_tD, toP_tD]
    simp only [PySem.W.alike]
    exact alike_ints a b
  · obtain ⟨a, _, rfl⟩ := List.mem_map.mp hx
    have e : (tD a).toP = .none := e
    rw [toP_tD] at e
    cases e
theorem rn_minRows {S : Type} {s : S} {E : Xn → S → Prop} {rows : List (List Nat)} {m : List Nat} (hm : m ∈ rows) (h : ∀ z ∈ rows, z = m ∨ ltR m z = true) (hr : ∀ z ∈ rows, ∀ y ∈ z, y < 1000) {Q : Rv → S → Prop} (q : Q (.dat (tD m)) s) :
    (opMin2 [.lst (rows.map tD)] : M S Rv).rn s Q E := by
  cases rows with
  | nil => cases hm
  | cons row rest =>
    have hsh := Shw.all (k := 1) (w := (row :: rest).map List.length |>.sum) (ds := (row :: rest).map tD) fun d hd => by
      obtain ⟨z, hz, rfl⟩ := List.mem_map.mp hd
      exact (Shw.tD fun y hy => by have := hr z hz y hy; omega).mono (Nat.le_refl _) (le_sum (List.mem_map.mpr ⟨z, hz, rfl⟩))
    refine ⟨⟨hsh.1, alike_rows (row :: rest), Nat.le_trans hsh.2.2.1 (by decide)⟩, ?_⟩
    rintro e ⟨he, ep⟩
    obtain ⟨z, hz, rfl⟩ := List.mem_map.mp (show e ∈ (row :: rest).map tD from he)
    have := min_rows hm h
    have ez : z = m := toP_inj (ep.trans this)
    subst ez
    exact q
section
variable {n : Nat} {f g : Nat → Nat → Nat}
theorem fc_small : ∀ k, k ≤ 5 → fc k ≤ 120 := by decide
theorem many_of_heap_run (s : SD) {h : List Nat} (hS : h.sum ≤ 5) {Q : D → SD → Prop} (q : Q (iD (dvs (fc h.sum) h)) s) : (F_many_of_heap [tD h]).rn s Q noX := by
  unfold F_many_of_heap b_many_of_heap
  push_cast [Ev.rn_eRevS, Ev.opRevS, ← List.map_reverse, List.length_reverse, rn_eOp, rn_sumT]
  refine rn_fact (by omega) ?_
  push_cast [Ev.rn_eRevS, Ev.opRevS, ← List.map_reverse, List.length_reverse]
  refine for_rn (I := fun i Γ t => t = s ∧ ∃ x2, Γ = [.dat (tD h), .dat (iD (dvs (fc h.sum) (h.take i))), x2]) (fun i e Γ t he hI => ?_) (fun Γ t hI => ?_) _ _ ⟨rfl, _, rfl⟩
  · obtain ⟨rfl, x2, rfl⟩ := hI
    obtain ⟨hi, rfl, et⟩ := nat_at he
    have hv : h[i] ≤ h.sum := le_sum (List.getElem_mem hi)
    push_cast [Ev.rn_eRevS, Ev.opRevS, ← List.map_reverse, List.length_reverse, rn_eOp]
    refine rn_fact (k := h[i]) (by omega) ?_
    have ed : ((dvs (fc h.sum) (h.take i) : Nat) : Int).fdiv (fc h[i] : Nat) = ((dvs (fc h.sum) (h.take i) / fc h[i] : Nat) : Int) := by rw [Int.fdiv_eq_ediv_of_nonneg _ (by omega), Int.natCast_ediv]
    push_cast [Ev.rn_eRevS, Ev.opRevS, ← List.map_reverse, List.length_reverse, ed]
    have f1 := fc_small h[i] (by omega)
    have f2 := fc_pos h[i]
    refine ⟨⟨by omega, by omega⟩, .dat (.int (h[i] : Nat)), ?_⟩
    rw [et]
    unfold dvs
    rw [List.foldl_append]; rfl
  · obtain ⟨rfl, x2, rfl⟩ := hI
    rw [List.length_map, List.take_length]
    push_cast [Ev.rn_eRevS, Ev.opRevS, ← List.map_reverse, List.length_reverse]
    exact q
theorem heap_of_row_run (s : SD) (hn : n ≤ 1000) (r : Rl n f g) {row : List Nat} (hr : ∀ x ∈ row, x < n) (hl : row.length ≤ 1000) {Q : D → SD → Prop} (q : Q (tD (hpR n (rdO (mat n f) row (rg n)))) s) : (F_heap_of_row [tbD n f g, tD row]).rn s Q noX := by
  have e0 : tbD n f g = .tup ((List.range n).map (tbR n f g)) := rfl
  have z0 : ∀ x y : D, at? [x, y] 0 = some x := fun _ _ => rfl
  have ho := rdO_lt r row (rg n) hr (Pm.range n)
  have lo : (rdO (mat n f) row (rg n)).length = row.length := rdO_len _ _ _
  unfold F_heap_of_row b_heap_of_row
  push_cast [Ev.rn_eRevS, Ev.opRevS, ← List.map_reverse, List.length_reverse]
  unfold F_heap_and_turn b_heap_and_turn
  push_cast [Ev.rn_eRevS, Ev.opRevS, ← List.map_reverse, List.length_reverse]
  refine lefts_of_run s (by omega) ?_
  push_cast [Ev.rn_eRevS, Ev.opRevS, ← List.map_reverse, List.length_reverse]
  refine order_by_run s (by omega) r hr hl ?_
  push_cast [Ev.rn_eRevS, Ev.opRevS, ← List.map_reverse, List.length_reverse, e0]
  refine ⟨by omega, heap_by_run s (by omega) ho (by omega) ?_⟩
  push_cast [Ev.rn_eRevS, Ev.opRevS, ← List.map_reverse, List.length_reverse, z0]
  exact ⟨by decide, q⟩
/-- a row whose order has the numbers of the heap -/
theorem hp_eq {h : List Nat} (hl : h.length = n) {o : List Nat} (hc : ∀ y, o.count y = h.getD y 0) : hpR n o = h := by
  conv => rhs; rw [list_nat hl]
  exact List.map_congr_left fun y _ => hc y
theorem many_alike_run (s : SD) (h1 : 1 ≤ n) (hn : n ≤ 8) (r : Rl n f g) {h : List Nat} (hl : h.length = n) (hS : h.sum ≤ 5) {row : List Nat} (hr : ∀ x ∈ row, x < n) (hk : row.length ≤ 1000) (hc : ∀ y, (rdO (mat n f) row (rg n)).count y = h.getD y 0) {Q : D → SD → Prop} (q : Q (iD (ords n h h.sum).length) s) : (F_many_alike [tbD n f g, tD row]).rn s Q noX := by
  unfold F_many_alike b_many_alike
  push_cast [Ev.rn_eRevS, Ev.opRevS, ← List.map_reverse, List.length_reverse]
  refine need_rule_run s h1 hn r ?_
  push_cast [Ev.rn_eRevS, Ev.opRevS, ← List.map_reverse, List.length_reverse]
  refine need_row_run s (by omega) hr ?_
  push_cast [Ev.rn_eRevS, Ev.opRevS, ← List.map_reverse, List.length_reverse]
  refine heap_of_row_run s (by omega) r hr hk ?_
  rw [hp_eq hl hc]
  refine many_of_heap_run s hS ?_
  rw [dvs_Mn hl]
  push_cast [Ev.rn_eRevS, Ev.opRevS, ← List.map_reverse, List.length_reverse]
  exact q
theorem shH {h : List Nat} (hn : n ≤ 8) (hl : h.length = n) (hS : h.sum ≤ 1000) : Shw 1 1000 (tD h) := (Shw.tD fun y hy => by have := le_sum hy; omega).mono (Nat.le_refl _) (by omega)
theorem is_first_run {a : Addr} {s : SD} (hs : Dk a s) (h1 : 1 ≤ n) (hn : n ≤ 8) (r : Rl n f g) {h : List Nat} (hl : h.length = n) (hS : h.sum ≤ 100) {Q : D → SD → Prop} (q : ∀ t, Dk a t → Q (.bl true) t) : (F__law_is_first [.ref a, tbD n f g, .lst ((mat n f).map tD), tD h]).rn s Q noX := by
  have z0 : ∀ x y : D, at? [x, y] 0 = some x := fun _ _ => rfl
  have hR := fR_lt r h.sum h (rg n) hl (Pm.range n) rfl
  have lR := fR_len (n := n) (mat n f) h.sum h (rg n)
  have cR := fR_count r h.sum h (rg n) hl (Pm.range n) rfl
  have shh := shH hn hl (by omega)
  have shr : Shw 1 1000 (tD (fR n (mat n f) h (rg n) h.sum)) := shT (n := n) (by omega) hR (by omega)
  have ho := rdO_lt r _ (rg n) hR (Pm.range n)
  have sho : Shw 1 1000 (tD (rdO (mat n f) (fR n (mat n f) h (rg n) h.sum) (rg n))) := shT (n := n) (by omega) ho (by rw [rdO_len]; omega)
  unfold F__law_is_first b__law_is_first
  push_cast [Ev.rn_eRevS, Ev.opRevS, ← List.map_reverse, List.length_reverse]
  refine first_row_run s h1 hn r hl (by omega) ?_
  push_cast [Ev.rn_eRevS, Ev.opRevS, ← List.map_reverse, List.length_reverse]
  refine is_least_run s (by omega) r hl (by omega) ?_
  push_cast [Ev.rn_eRevS, Ev.opRevS, ← List.map_reverse, List.length_reverse, perm10, perm01]
  refine first_row_run s h1 hn r hl (by omega) ?_
  push_cast [Ev.rn_eRevS, Ev.opRevS, ← List.map_reverse, List.length_reverse]
  refine law_same_run s shr (by decide) (by decide) ?_
  push_cast [Ev.rn_eRevS, Ev.opRevS, ← List.map_reverse, List.length_reverse]
  refine heap_of_run s h1 hn r hR (by omega) ?_
  rw [hp_eq hl cR]
  push_cast [Ev.rn_eRevS, Ev.opRevS, ← List.map_reverse, List.length_reverse]
  refine order_of_run s h1 hn r hR (by omega) ?_
  push_cast [Ev.rn_eRevS, Ev.opRevS, ← List.map_reverse, List.length_reverse]
  refine ⟨by decide, ?_⟩
  refine law_read s n (by omega) (mat n f) (mat_TL r) _ hR (by omega) _ ?_
  push_cast [Ev.rn_eRevS, Ev.opRevS, ← List.map_reverse, List.length_reverse, z0]
  refine ⟨by decide, ?_⟩
  refine law_same_run s (sh2 shh sho) (by decide) (by decide) ?_
  push_cast [Ev.rn_eRevS, Ev.opRevS, ← List.map_reverse, List.length_reverse]
  refine line_run s (by omega) (by omega) ?_
  have ll : (blk (fun y => h.getD y 0) h.length).length = h.sum := by rw [blk_len h (Nat.le_refl _), List.take_length]
  have lb : ∀ x ∈ blk (fun y => h.getD y 0) h.length, x < n := fun x hx => by
    have := List.count_pos_iff.mpr hx
    rw [blk_count] at this
    by_cases z : x < h.length
    · omega
    · rw [if_neg z] at this; omega
  have lc : ∀ y, (blk (fun y => h.getD y 0) h.length).count y = h.getD y 0 := fun y => by
    rw [blk_count]
    by_cases z : y < h.length
    · rw [if_pos z]
    · rw [if_neg z, List.getD_eq_getElem?_getD, List.getElem?_eq_none (by omega)]; rfl
  generalize blk (fun y => h.getD y 0) h.length = line at ll lb lc ⊢
  push_cast [Ev.rn_eRevS, Ev.opRevS, ← List.map_reverse, List.length_reverse, ll]
  refine ⟨by omega, ?_⟩
  refine shuffled h.sum hs fun p s2 hp hs2 => ?_
  have hpl := hp.len
  push_cast [Ev.rn_eRevS, Ev.opRevS, ← List.map_reverse, List.length_reverse]
  refine ⟨by omega, ?_⟩
  refine lc_map (c := iD) (h := fun y => iD (line.getD y 0)) (fun y hy Q1 q1 => ?_) ?_
  · have hy := hp.lt hy
    push_cast [Ev.rn_eRevS, Ev.opRevS, ← List.map_reverse, List.length_reverse, at_list (a := line) (k := y) (by omega)]
    exact q1
  rw [show p.map (fun y => iD (line.getD y 0)) = (p.map fun y => line.getD y 0).map iD by rw [List.map_map]; rfl]
  have po : (p.map fun y => line.getD y 0).Perm line := by
    have e1 := hp.perm.map fun y => line.getD y 0
    rwa [← list_nat ll] at e1
  have lo2 : (p.map fun y => line.getD y 0).length = h.sum := by rw [List.length_map, hpl]
  have bo : ∀ x ∈ p.map fun y => line.getD y 0, x < n := fun x hx => lb x (po.mem_iff.mp hx)
  have co : ∀ y, (p.map fun y => line.getD y 0).count y = h.getD y 0 := fun y => by rw [po.count_eq, lc]
  generalize (p.map fun y => line.getD y 0) = o at po lo2 bo co ⊢
  push_cast [Ev.rn_eRevS, Ev.opRevS, ← List.map_reverse, List.length_reverse]
  refine law_writtenL s2 (by omega) r bo (by omega) ?_
  have hw := wrR_lt r o (rg n) bo (Pm.range n)
  have lw : (wrR (mat n f) o (rg n)).length = o.length := wrR_len _ _ _
  have ew : hpR n (rdO (mat n f) (wrR (mat n f) o (rg n)) (rg n)) = h := by
    rw [rd_wr r o (rg n) bo (Pm.range n)]; exact hp_eq hl co
  push_cast [Ev.rn_eRevS, Ev.opRevS, ← List.map_reverse, List.length_reverse]
  refine heap_of_run s2 h1 hn r hw (by omega) ?_
  rw [ew]
  push_cast [Ev.rn_eRevS, Ev.opRevS, ← List.map_reverse, List.length_reverse]
  refine heap_of_run s2 h1 hn r hw (by omega) ?_
  rw [ew]
  push_cast [Ev.rn_eRevS, Ev.opRevS, ← List.map_reverse, List.length_reverse]
  refine first_row_run s2 h1 hn r hl (by omega) ?_
  push_cast [Ev.rn_eRevS, Ev.opRevS, ← List.map_reverse, List.length_reverse]
  walk_at "nq"
  refine law_same_run s2 (sh2 shh shr) (by decide) (by decide) ?_
  exact q s2 hs2
end
end K15
/-! from K15R6.lean -/
set_option maxRecDepth 100000
set_option maxHeartbeats 1000000
namespace K15
open PySem Ev Fit
theorem twelve15 {j : Nat} (hj : j < 12) : ∃ n : Nat, at? [D.int 3, .int 4, .int 2, .int 5, .int 3, .int 4, .int 6, .int 2, .int 3, .int 1, .int 7, .int 8] (j : Int) = some (.int (n : Nat)) ∧ 1 ≤ n ∧ n ≤ 8 := by
  have : j = 0 ∨ j = 1 ∨ j = 2 ∨ j = 3 ∨ j = 4 ∨ j = 5 ∨ j = 6 ∨ j = 7 ∨ j = 8 ∨ j = 9 ∨ j = 10 ∨ j = 11 := by omega
  rcases this with rfl | rfl | rfl | rfl | rfl | rfl | rfl | rfl | rfl | rfl | rfl | rfl
  · exact ⟨3, rfl, by decide, by decide⟩
  · exact ⟨4, rfl, by decide, by decide⟩
  · exact ⟨2, rfl, by decide, by decide⟩
  · exact ⟨5, rfl, by decide, by decide⟩
  · exact ⟨3, rfl, by decide, by decide⟩
  · exact ⟨4, rfl, by decide, by decide⟩
  · exact ⟨6, rfl, by decide, by decide⟩
  · exact ⟨2, rfl, by decide, by decide⟩
  · exact ⟨3, rfl, by decide, by decide⟩
  · exact ⟨1, rfl, by decide, by decide⟩
  · exact ⟨7, rfl, by decide, by decide⟩
  · exact ⟨8, rfl, by decide, by decide⟩
theorem law_run (ns : List Int) (hl : ns.length ≤ 63) : (F_law [.scr (ns.map D.int)]).run none (fun d _ => d = .bl true) noX := by
  show (F_law [.scr (ns.map D.int)]).rn none (fun d _ => d = .bl true) noX
  unfold F_law b_law
  push_cast [Ev.rn_eRevS, Ev.opRevS, ← List.map_reverse, List.length_reverse]
  refine law_deck ns hl _ fun dk ok => ?_
  have hs : Dk dk.a (some dk) := ⟨dk, rfl, ok, rfl⟩
  generalize some dk = s at hs ⊢
  generalize dk.a = a at hs ⊢
  push_cast [Ev.rn_eRevS, Ev.opRevS, ← List.map_reverse, List.length_reverse]
  refine ⟨by decide, ?_⟩
  refine draw 12 hs fun j s1 hj hs1 => ?_
  obtain ⟨n, hat, h1, hn⟩ := twelve15 hj
  push_cast [Ev.rn_eRevS, Ev.opRevS, ← List.map_reverse, List.length_reverse, hat]
  refine law_lefts hs1 n h1 (by omega) _ fun dd s2 ⟨f, g, r, ed⟩ hs2 => ?_
  subst ed
  push_cast [Ev.rn_eRevS, Ev.opRevS, ← List.map_reverse, List.length_reverse]
  refine law_table s2 n (by omega) r _ ?_
  push_cast [Ev.rn_eRevS, Ev.opRevS, ← List.map_reverse, List.length_reverse]
  refine drawn_run hs2 h1 hn r 60 (by decide) fun h s3 hh hS hs3 => ?_
  push_cast [Ev.rn_eRevS, Ev.opRevS, ← List.map_reverse, List.length_reverse]
  refine is_first_run hs3 h1 hn r hh (by omega) fun s4 hs4 => ?_
  push_cast [Ev.rn_eRevS, Ev.opRevS, ← List.map_reverse, List.length_reverse]
  refine drawn_run hs4 h1 hn r 12 (by decide) fun h' s5 hh' hS' hs5 => ?_
  push_cast [Ev.rn_eRevS, Ev.opRevS, ← List.map_reverse, List.length_reverse]
  refine is_first_run hs5 h1 hn r hh' (by omega) fun s6 hs6 => ?_
  push_cast [Ev.rn_eRevS, Ev.opRevS, ← List.map_reverse, List.length_reverse]
  clear hh hS hh' hS' h h'
  refine drawn_run hs6 h1 hn r 5 (by decide) fun h s7 hh hS hs7 => ?_
  push_cast [Ev.rn_eRevS, Ev.opRevS, ← List.map_reverse, List.length_reverse]
  refine orders_run s7 hn hh hS ?_
  push_cast [Ev.rn_eRevS, Ev.opRevS, ← List.map_reverse, List.length_reverse]
  have bd : (ords n h h.sum).length ≤ 32768 := by
    refine Nat.le_trans (ords_le _) (Nat.le_trans (Nat.pow_le_pow_left hn _) ?_)
    exact Nat.le_trans (Nat.pow_le_pow_right (by decide) hS) (by decide)
  refine ⟨by omega, ?_⟩
  have om := fun {o : List Nat} (ho : o ∈ ords n h h.sum) => ords_mem ho
  have oc := fun {o : List Nat} (ho : o ∈ ords n h h.sum) => ords_count hh ho
  refine lc_map (c := tD) (h := fun o => tD (wrR (mat n f) o (rg n))) (fun o ho Q1 q1 => ?_) ?_
  · obtain ⟨o1, o2, _⟩ := om ho
    push_cast [Ev.rn_eRevS, Ev.opRevS, ← List.map_reverse, List.length_reverse]
    refine law_written_run s7 (by omega) r o2 (by omega) ?_
    push_cast [Ev.rn_eRevS, Ev.opRevS, ← List.map_reverse, List.length_reverse]
    exact q1
  have hR := fR_lt r h.sum h (rg n) hh (Pm.range n) rfl
  have lR := fR_len (n := n) (mat n f) h.sum h (rg n)
  have cR := fR_count r h.sum h (rg n) hh (Pm.range n) rfl
  have hoR := rdO_lt r _ (rg n) hR (Pm.range n)
  have memR : rdO (mat n f) (fR n (mat n f) h (rg n) h.sum) (rg n) ∈ ords n h h.sum := mem_ords h.sum _ (by rw [rdO_len, lR]) hoR fun y _ => by rw [cR]; exact Nat.le_refl _
  rw [show (ords n h h.sum).map (fun o => tD (wrR (mat n f) o (rg n))) = ((ords n h h.sum).map fun o => wrR (mat n f) o (rg n)).map tD by rw [List.map_map]; rfl]
  have hrows : ∀ z ∈ (ords n h h.sum).map fun o => wrR (mat n f) o (rg n), (∀ x ∈ z, x < n) ∧ z.length = h.sum ∧ (∀ y, (rdO (mat n f) z (rg n)).count y = h.getD y 0) := fun z hz => by
    obtain ⟨o, ho, rfl⟩ := List.mem_map.mp hz
    obtain ⟨o1, o2, _⟩ := om ho
    refine ⟨wrR_lt r o (rg n) o2 (Pm.range n), by rw [wrR_len, o1], fun y => ?_⟩
    rw [rd_wr r o (rg n) o2 (Pm.range n)]
    exact oc ho y
  have hmem : fR n (mat n f) h (rg n) h.sum ∈ (ords n h h.sum).map fun o => wrR (mat n f) o (rg n) := List.mem_map.mpr ⟨_, memR, wr_rd r _ (rg n) hR (Pm.range n)⟩
  have hlen : ((ords n h h.sum).map fun o => wrR (mat n f) o (rg n)).length = (ords n h h.sum).length := List.length_map ..
  generalize ((ords n h h.sum).map fun o => wrR (mat n f) o (rg n)) = rows at hrows hmem hlen ⊢
  have hleast : ∀ z ∈ rows, z = fR n (mat n f) h (rg n) h.sum ∨ ltR (fR n (mat n f) h (rg n) h.sum) z = true := fun z hz => by
    obtain ⟨z1, z2, z3⟩ := hrows z hz
    exact fR_least r h.sum h (rg n) z hh (Pm.range n) rfl z1 z3 z2
  obtain ⟨init, last, hil⟩ : ∃ init last, rows = init ++ [last] := by
    have hne : rows ≠ [] := fun e => by rw [e] at hmem; cases hmem
    exact ⟨_, _, (List.dropLast_concat_getLast hne).symm⟩
  obtain ⟨l1, l2, l3⟩ := hrows last (by rw [hil]; simp)
  have hat1 : at? (rows.map tD) (-1) = some (tD last) := by
    rw [hil, List.map_append]; exact at_last
  have e6 : ∀ z ∈ rows, ∀ y ∈ z, y < 1000 := fun z hz y hy => by have := (hrows z hz).1 y hy; omega
  have shr : Shw 1 1000 (tD (fR n (mat n f) h (rg n) h.sum)) := shT (n := n) (by omega) hR (by omega)
  have shi : Shw 1 1000 (iD (ords n h h.sum).length) := (Shw.iD (by omega)).mono
  push_cast [Ev.rn_eRevS, Ev.opRevS, ← List.map_reverse, List.length_reverse]
  refine first_row_run s7 h1 hn r hh (by omega) ?_
  push_cast [Ev.rn_eRevS, Ev.opRevS, ← List.map_reverse, List.length_reverse, hat1]
  refine many_alike_run s7 h1 hn r hh hS l1 (by omega) l3 ?_
  push_cast [Ev.rn_eRevS, Ev.opRevS, ← List.map_reverse, List.length_reverse, rn_eOp]
  refine ⟨by decide, ?_⟩
  refine rn_minRows hmem hleast e6 ?_
  push_cast [Ev.rn_eRevS, Ev.opRevS, ← List.map_reverse, List.length_reverse]
  rw [hlen]
  refine ⟨by omega, by decide, ?_⟩
  exact law_same_run s7 (sh2 shr shi) (by decide) (by decide) rfl
end K15
/-! from K15Z.lean -/
/-! the theorem -/
theorem PySem.Challenge.cw_threesfit_k15_first_rows_of_heaps_holds : PySem.Challenge.rw_threesfit_k15_first_rows_of_heaps.Holds := by
  exact K15_ends K15.law_run
