import PyProof.Rows.All
import Wide.All
import OpenK.AllK
import Wide.FinOn
import HandS.ForMost
import HandS.TupAny
import HandS.TupMul
import HandS.IsInst
import HandS.Walk
import HandS.Flow
import HandS.Deep
import HandS.SortInts
import HandS.Conv
import HandS.NoneIn
import HandS.Iter
import KE.KDictPairs
import HandS.More
import HandS.Small
import PyProof.Rows.SortShellK
import PyProof.Rows.SortStr
import HandS.Text
import HandS.SetFor
import PyProof.SeqRoads2
import PySem.Challenge.RW_leastrecord_k01_names_and_sums
set_option Elab.async false
set_option autoImplicit false
set_option linter.all false
set_option maxRecDepth 100000
set_option maxHeartbeats 4000000
/-! PV: tuples whose object is known to have no dict of its own -/
namespace PV
open PySem PySem.Spec L2
/-- a new tuple of xs, its object known -/
abbrev NewT (H : Hp) (Q : VK) (xs : List V) : Prop := ∀ (p : Addr) (o : Obj), H p = none → o.cls = .type "tuple" → o.dict = none → Q (.ref p) (upd H p (.frz o (.tup xs)))
section
variable {X : Cx} {pins : List (Addr × Obj)} {σ : L2.St} {H : Hp} {s : Shared}
theorem laidT {Q : VK} {xs : List V} {its : List Value} {t : Nat} {h' : Heap} {g : Array GenState} {dr : Drawn} {os : _} (I : Inv X pins σ H ⟨h', g, dr, t, os⟩) (r : Vals xs its) (z : xs.length ≤ sizeLine) (q : NewT H Q xs) :
    EP X pins σ Q (.ref h'.objs.size) ⟨h'.push { cls := .type "tuple", data := .seq its.toArray }, g, dr, t, os⟩ := by
  have hf : H h'.objs.size = none := I.hok.fresh (Nat.le_refl _)
  have hg : (h'.push { cls := .type "tuple", data := .seq its.toArray }).get? h'.objs.size = some { cls := .type "tuple", data := .seq its.toArray } := Heap.get?_push_size _ rfl
  refine ⟨.ref h'.objs.size, _, I.laid (t' := t) (o := .frz { cls := .type "tuple", data := .seq its.toArray } (.tup xs)) (fun b u e => Heap.get?_push_of_some _ e) (Nat.le_refl _) ?_, rfl, q _ _ hf rfl rfl⟩
  exact ⟨hg, z, its, r, _, hg, rfl, _, rfl⟩
def tTupN (t : TA) : TE := fun σ H Q => t σ H fun xs H1 => xs.length ≤ sizeLine ∧ NewT H1 Q xs
theorem pe_tupN {es : List Expr} {t : TA} {x1 : Nat} {pos : Pos} (h : PA X es t) : PE X (.Tuple es x1 pos) (tTupN t) := by
  constructor
  intro pins s σ H Q I hq
  apply wpAny_Tuple_spliced
  refine thn (h.run pos pins s σ H _ I hq) ?_
  rintro us ⟨h1, g1, d1, t1, os1⟩ ⟨xs, H1, I1, r, z, q⟩
  exact ⟨by rw [← r.length]; exact z, laidT I1 r z q⟩
/-- t + u -/
def rCatN (K : PySem.W.Frag) : R2 := fun x y H Q => ∃ a b xs ys, x = .ref a ∧ y = .ref b ∧ SqT K H a xs ∧ SqT K H b ys ∧ xs.length + ys.length ≤ sizeLine ∧
  (xs = [] → Q (.ref b) H) ∧ (xs ≠ [] → ys = [] → Q (.ref a) H) ∧ (xs ≠ [] → ys ≠ [] → NewT H Q (xs ++ ys))
theorem op_catN : OpR X (binaryOp .Add) (rCatN X.K) := by
  rintro pins ⟨hp, g, d, t, os⟩ σ H x y v u Q I rx ry ⟨a, b, xs, ys, rfl, rfl, ha, hb, hz, q0, q1, q2⟩
  cases rx
  cases ry
  obtain ⟨its, r1, p1, _⟩ := I.tuple ha
  obtain ⟨its2, r2, p2, _⟩ := I.tuple hb
  by_cases hx : xs = []
  · subst hx
    have : its = [] := Vals.zero r1
    subst this
    exact cat_tup0 p1 p2 ⟨.ref b, H, I, rfl, q0 rfl⟩
  · refine HT.cat_tup p1 p2 (fun z => hx (r1.nil_iff.mp z)) (fun z => ⟨.ref a, H, I, rfl, q1 hx (r2.nil_iff.mp z)⟩) (fun z => ?_) (by rw [← r1.length, ← r2.length]; exact hz)
    exact laidT I (r1.append r2) (by rw [List.length_append]; exact hz) (q2 hx fun w => z (r2.nil_iff.mpr w))
/-- t[lo:hi] -/
def rSlN (K : PySem.W.Frag) : V → Option Int → Option Int → Hp → VK → Prop := fun x lo hi H Q => ∃ a xs, x = .ref a ∧ SqT K H a xs ∧
  (HT.sIx xs.length 0 lo = 0 ∧ HT.sIx xs.length xs.length hi = xs.length → Q (.ref a) H) ∧ (¬ (HT.sIx xs.length 0 lo = 0 ∧ HT.sIx xs.length xs.length hi = xs.length) → NewT H Q (cutV xs lo hi))
theorem sl_tupN : SlR X (rSlN X.K) := by
  rintro pins ⟨hp, g, d, t, os⟩ σ H x v vl vu lo hi sl Q I rx hs pl pu ⟨a, xs, rfl, hx, q1, q2⟩
  cases rx
  obtain ⟨its, r, ht, hz⟩ := I.tuple hx
  have hsz : its.toArray.size = xs.length := (List.size_toArray).trans r.length.symm
  refine ⟨"tuple", _, PyProof.Rows.slot_tuple_getitem.lookup, ht.typeIs, ?_⟩
  by_cases hw : HT.sIx xs.length 0 lo = 0 ∧ HT.sIx xs.length xs.length hi = xs.length
  · exact getItem_tuple_whole ht hs pl pu (by rw [hsz]; exact hw) ⟨.ref a, H, I, rfl, q1 hw⟩
  · apply HT.getItem_tuple_cut ht hs pl pu (by rw [hsz]; exact hw) ?_ (by rw [hsz]; exact hz)
    rw [hsz]
    exact laidT I ((r.drop (HT.sIx xs.length 0 lo)).take (HT.sIx xs.length xs.length hi - HT.sIx xs.length 0 lo)) (Nat.le_trans (cutV_length xs lo hi) hz) (q2 hw)
/-- tuple(x) -/
theorem call_tupleN : CallR X (.type "tuple") (fun xs H Q => ∃ p ys, xs = [.ref p] ∧ ((SqL X.K H p ys ∧ NewT H Q ys) ∨ (SqT X.K H p ys ∧ Q (.ref p) H))) := by
  rintro pins ⟨hp, g, d, t, os⟩ σ H xs us Q I r ⟨p, ys, rfl, h⟩
  obtain ⟨u, rfl, rx⟩ := vals1 r
  cases rx
  cases h with
  | inl h =>
    obtain ⟨hq, q⟩ := h
    obtain ⟨its, r', pl, hz⟩ := I.list hq
    have hlen := r'.length
    refine PySem.call_tuple_list pl.isList (fun h' kp => ?_) (by simp only [List.size_toArray]; omega)
    have I1 : Inv X pins σ H ⟨h', g, d, t, os⟩ := I.kept (t' := t) kp
    exact laidT I1 r' hz q
  | inr h =>
    obtain ⟨hq, q⟩ := h
    obtain ⟨its, r', pl, hz⟩ := I.tuple hq
    exact PySem.call_tuple_same pl ⟨.ref p, H, I, rfl, q⟩
end
end PV

/-! PV: tuple * int, whatever the int -/
namespace PV
open PySem PySem.Spec L2 PyProof.Rows
theorem tuple_mulS (l : Addr) (items : Array Value) (n : Nat) (dd : Option Addr) (sl : Array (Option Value)) (k : Int) (u : Tok) (h1 : 0 ≤ k) (h2 : k ≤ 1000) (c1 : (items.isEmpty || k == 1) = true) :
    Meets (Builtin.«tuple.__mul__» ⟨[.ref l, .int k u], []⟩) (fun _ R s => s.heap.get? l = some { cls := .type "tuple", dict := dd, data := .seq items n, slots := sl } ∧
      R (.ok (.ret (Value.ref l))) s) :=
  .of_wp fun prog w A R s h => by
    obtain ⟨hp, g, d, tk, os⟩ := s
    obtain ⟨hl, h⟩ := h
    have f1 := AutoSeq1.idx_int
    have hT : Shared.TypeIs ⟨hp, g, d, tk, os⟩ (.ref l) "tuple" := ⟨_, hl, rfl⟩
    have c0 : (decide (k < -(2 ^ 63)) || decide (k ≥ 2 ^ 63)) = false := by
      rw [decide_eq_false (by omega), decide_eq_false (by omega)] <;> rfl
    wp_walk using wpAny_loadPart' hl, wpAny_typeOf hT
    repeat (first
      | (refine wpAny_ite_false (decide_eq_false (by rw [c0]; exact Bool.false_ne_true)) ?_; wp_walk using wpAny_loadPart' hl, wpAny_typeOf hT)
      | (refine wpAny_ite_true (decide_eq_true c1) ?_; wp_walk using wpAny_loadPart' hl, wpAny_typeOf hT))
    exact ⟨_, rfl, h⟩
theorem tuple_mul0 (l : Addr) (items : Array Value) (n : Nat) (dd : Option Addr) (sl : Array (Option Value)) (u : Tok) (hne : items.isEmpty = false) :
    Meets (Builtin.«tuple.__mul__» ⟨[.ref l, .int 0 u], []⟩) (fun _ R s => s.heap.get? l = some { cls := .type "tuple", dict := dd, data := .seq items n, slots := sl } ∧
      R (.ok (.ret (Value.ref s.heap.objs.size))) { s with heap := s.heap.push { cls := Value.type "tuple", data := Data.seq #[] }, toks := s.toks }) :=
  .of_wp fun prog w A R s h => by
    obtain ⟨hp, g, d, tk, os⟩ := s
    obtain ⟨hl, h⟩ := h
    have f1 := AutoSeq1.idx_int
    have c0 : (decide ((0 : Int) < -(2 ^ 63)) || decide ((0 : Int) ≥ 2 ^ 63)) = false := by decide
    have c1 : (items.isEmpty || (0 : Int) == 1) = false := by rw [hne]; rfl
    have c2 : (decide ((0 : Int) ≤ 0) || items.isEmpty) = true := by rfl
    have hsz : (#[] : Array Value).size ≤ sizeLine := by rw [sizeLine_eq]; exact Nat.zero_le _
    wp_walk using wpAny_loadPart' hl
    repeat (first
      | (refine wpAny_ite_false (decide_eq_false (by rw [c0]; exact Bool.false_ne_true)) ?_; wp_walk using wpAny_loadPart' hl)
      | (refine wpAny_ite_false (decide_eq_false (by rw [c1]; exact Bool.false_ne_true)) ?_; wp_walk using wpAny_loadPart' hl)
      | (refine wpAny_ite_true (decide_eq_true c2) ?_; wp_walk using wpAny_loadPart' hl)
      | (refine wpAny_ite_false (decide_eq_false (Nat.not_lt.mpr hsz)) ?_; wp_walk using wpAny_loadPart' hl))
    exact ⟨_, rfl, h⟩
/-- t * k -/
def rRepN (K : PySem.W.Frag) : R2 := fun x y H Q => ∃ l k xs, x = .ref l ∧ y = .int k ∧ SqT K H l xs ∧ 0 ≤ k ∧ k ≤ 1000 ∧ xs.length ≤ 1000 ∧
  ((xs = [] ∨ k = 1) → Q (.ref l) H) ∧ (xs ≠ [] → k ≠ 1 → NewT H Q (List.replicate k.toNat xs).flatten)
theorem op_repN {X : Cx} : OpR X (binaryOp .Mult) (rRepN X.K) := by
  intro pins s σ H x y v u Q I rx ry h
  obtain ⟨l, k, xs, rfl, rfl, hT, h1, h2, hz, q1, q2⟩ := h
  cases rx
  obtain ⟨t, rfl⟩ := ry
  obtain ⟨its, r, ⟨⟨cls, dd, data, sl⟩, ho, hc, n, hd⟩, hs⟩ := I.tuple hT
  simp only at hc hd
  subst hc hd
  have hle : its.length = xs.length := r.length.symm
  have go : ∀ Q', wpAny (model X.prog X.w) X.A (call (.builtin "tuple.__mul__") [.ref l, .int k t]) Q' X.xe s → wpAny (model X.prog X.w) X.A (binaryOp .Mult (.ref l) (.int k t)) Q' X.xe s := fun Q' hq =>
    wpAny_binaryOp_repeat_ref (T := "tuple") (U := "int") (by decide) ⟨_, ho, rfl⟩ (fun s' => typeIs_int s' k t) noFill_tuple_mul F.fills_int_mul F.slot_int_rmul repeat_tuple F.slot_int_index.lookup
      (call_meets F.slot_int_rmul (typeIs_int s k t) F.entry_int_rmul (F.args_int_rmul_2 _ _) (int_rmul_tuple k t l its.toArray n dd sl) ⟨ho, rfl, ⟨_, ho, rfl⟩, hq⟩)
  refine go _ ?_
  by_cases k1 : xs = [] ∨ k = 1
  · have c1 : (its.toArray.isEmpty || k == 1) = true := by
      rcases k1 with e | e
      · subst e
        have : its = [] := List.eq_nil_of_length_eq_zero hle
        subst this; rfl
      · subst e; rw [show ((1 : Int) == 1) = true from rfl, Bool.or_true]
    exact call_meets F.slot_tuple_mul ⟨_, ho, rfl⟩ F.entry_tuple_mul (F.args_tuple_mul_2 _ _) (tuple_mulS l its.toArray n dd sl k t h1 h2 c1) ⟨ho, .ref l, H, I, rfl, q1 k1⟩
  · have hne : xs ≠ [] := fun e => k1 (.inl e)
    replace k1 : k ≠ 1 := fun e => k1 (.inr e)
    have hn : its ≠ [] := fun e => hne (by
      rw [e] at hle
      exact List.eq_nil_of_length_eq_zero hle.symm)
    have hi : its.toArray.isEmpty = false := by
      cases its with
      | nil => exact absurd rfl hn
      | cons a b => rfl
    replace q2 := q2 hne
    by_cases k0 : k = 0
    · subst k0
      refine call_meets F.slot_tuple_mul ⟨_, ho, rfl⟩ F.entry_tuple_mul (F.args_tuple_mul_2 _ _) (tuple_mul0 l its.toArray n dd sl t hi) ⟨ho, ?_⟩
      have q3 := q2 (by decide)
      obtain ⟨hp, g, dr, tk, os⟩ := s
      exact laidT (xs := []) (its := []) I .nil (by rw [sizeLine_eq]; exact Nat.zero_le _) q3
    · have hsz0 : its.toArray.size = xs.length := by rw [List.size_toArray, hle]
      have hm : ((its.toArray.size : Nat) : Int) * k ≤ 1000000 := by
        rw [hsz0]
        have a1 : ((xs.length : Nat) : Int) * k ≤ 1000 * k := Int.mul_le_mul_of_nonneg_right (by omega) (by omega)
        omega
      have flen : (List.replicate k.toNat its).flatten.length ≤ sizeLine := by
        rw [PyProof.Rows.lm_len_rep_flat, hle, sizeLine_eq]
        have a1 : k.toNat * xs.length ≤ 1000 * 1000 := Nat.mul_le_mul (by omega) hz
        omega
      have c0 : (decide (k < -(2 ^ 63)) || decide (k ≥ 2 ^ 63)) = false := by
        rw [decide_eq_false (by omega), decide_eq_false (by omega)] <;> rfl
      have c1 : (its.toArray.isEmpty || k == 1) = false := by
        rw [hi, Bool.false_or]
        exact beq_eq_false_iff_ne.mpr (by omega)
      have c2 : (decide (k ≤ 0) || its.toArray.isEmpty) = false := by
        rw [hi, Bool.or_false]
        exact decide_eq_false (by omega)
      have c4 : Builtin.Tuple.tupleTooMany (((its.toArray.size : Nat) : Int) * k) = false := by
        unfold Builtin.Tuple.tupleTooMany
        rw [sizeLine_eq]
        exact decide_eq_false (by omega)
      refine call_meets F.slot_tuple_mul ⟨_, ho, rfl⟩ F.entry_tuple_mul (F.args_tuple_mul_2 _ _) (tuple_mulW l its.toArray n dd sl k t c0 c1 c2 (by omega) c4 (by rw [size_rep, List.size_toArray]; exact flen)) ⟨ho, ?_⟩
      rw [size_rep]
      have q3 := q2 k1
      obtain ⟨hp, g, dr, tk, os⟩ := s
      exact laidT I (r.rep k.toNat) (by rw [PyProof.Rows.lm_len_rep_flat, sizeLine_eq]; have a1 : k.toNat * xs.length ≤ 1000 * 1000 := Nat.mul_le_mul (by omega) hz; omega) q3
end PV

/-! PV: a tuple, a list, a dict == a text -/
namespace PV
open PySem PySem.Spec L2 PyProof.Rows
theorem dict_eq_str (l : Addr) (da : Data) (dd : Option Addr) (sl : Array (Option Value)) (b : Str) (u : Tok) :
    Meets (Builtin.«dict.__eq__» ⟨[.ref l, .str b u], []⟩) (fun _ R s => s.heap.get? l = some { cls := .type "dict", dict := dd, data := da, slots := sl } ∧ R (.ok (.ret .notImplemented)) s) :=
  .of_wp fun prog w A R s h => by obtain ⟨hp, g, d, tk, os⟩ := s; obtain ⟨hl, h⟩ := h; have f1 := F.sub_str_dict; wp_walk using wpAny_loadPart' hl; exact ⟨_, rfl, h⟩
theorem str_eq_dict (b : Str) (u : Tok) (l : Addr) (es : Array DictEntry) (ep : Nat) (dd : Option Addr) (sl : Array (Option Value)) :
    Meets (Builtin.«str.__eq__» ⟨[.str b u, .ref l], []⟩) (fun _ R s => s.heap.get? l = some { cls := .type "dict", dict := dd, data := .dict es ep, slots := sl } ∧ R (.ok (.ret .notImplemented)) s) :=
  .of_wp fun prog w A R s h => by obtain ⟨hp, g, d, tk, os⟩ := s; obtain ⟨hl, h⟩ := h; wp_walk using wpAny_loadPart' hl, wpAny_load hl; exact ⟨_, rfl, h⟩
theorem dict_str {A : Around} {s : Shared} {l : Addr} {o : Obj} {es : Array DictEntry} {ep : Nat} (b : Str) (u : Tok) (ho : s.heap.get? l = some o) (hx : o.ExactDict) (hd : o.data = .dict es ep) (hu : A.units < cLine) : SeqAt.RcAt A s (.ref l) (.str b u) false := fun prog w E Q h => by
  obtain ⟨cls, dd, data, sl⟩ := o
  obtain ⟨hc, h1, h2⟩ := hx
  simp only at hc hd h1 h2
  subst hc hd h1 h2
  exact SeqAt.rc_eq_decline_or (k := false) ⟨_, ho, rfl⟩ (typeIs_str s b u) (by decide) F.sub_str_dict F.slot_dict_eq F.slot_str_eq_refl
    (fun _ hq => call_meets F.slot_dict_eq ⟨_, ho, rfl⟩ F.entry_dict_eq (F.args_dict_eq_2 _ _) (dict_eq_str l _ _ _ b u) ⟨ho, hq⟩)
    (fun _ hq => call_meets F.slot_str_eq_refl (typeIs_str s b u) F.entry_str_eq (F.args_str_eq_2 _ _) (str_eq_dict b u l es ep _ _) ⟨ho, hq⟩)
    (fun _ hq => wpAny_of_eq (rfl : isSame (.ref l) (.str b u) = pure false) hq) (.inr hu) h
def rEqRS (K : PySem.W.Frag) : R2 := fun x y H Q => ∃ (a : Addr) (z : Str), x = .ref a ∧ y = .str z ∧ ((∃ xs, SqT K H a xs) ∨ (∃ xs, SqL K H a xs) ∨ ∃ kvs, H a = some (.dK kvs)) ∧ Q (.bl false) H
theorem op_eqRS {X : Cx} (hu : X.A.units + 64 < cLine) : OpR X (compareOp .Eq) (rEqRS X.K) := by
  intro pins s σ H x y v u Q I rx ry h
  obtain ⟨a, z, rfl, rfl, hk, q⟩ := h
  cases rx
  obtain ⟨t, rfl⟩ := ry
  have hu' : X.A.units < cLine := by omega
  have go : SeqAt.RcAt X.A s (.ref a) (.str z t) false := by
    rcases hk with ⟨xs, hT⟩ | ⟨xs, hL⟩ | ⟨kvs, hD⟩
    · obtain ⟨its, r, ⟨o, ho, hc, n, hd⟩, _⟩ := I.tuple hT
      exact SeqAt.RcAt.tuple_str z t ⟨o, ho, hc, n, hd⟩ hu'
    · obtain ⟨its, r, ⟨o, n, ho, hc, h1, hd⟩, _⟩ := I.list hL
      exact SeqAt.RcAt.list_str z t ⟨o, ho, hc, n, hd⟩ hu'
    · obtain ⟨_, _, vs, _, o, es, ep, ho, hx, hd, _⟩ := I.hok a _ hD
      exact dict_str z t ho hx hd hu'
  exact go X.prog X.w X.xe _ ⟨.bl false, H, I, rfl, q⟩
end PV

/-! PV: plain data over the hand layer -/
namespace PV
open PySem PySem.Spec L2
/-! ### 1. data -/
inductive D where
  | non | bl (b : Bool) | int (i : Int) | str (s : Str)
  | tup (ds : List D) | pr (ds : List D) | lst (ds : List D) | scr (ds : List D)
  | dic (kvs : List (Key × D)) | dit (kvs : List (List Key × D)) | ty (n : String)
  deriving Inhabited
/-- a tuple without a dict of its own -/
def PlT (K : PySem.W.Frag) (F : Hp) (a : Addr) (vs : List V) : Prop :=
  (∃ o : Obj, F a = some (.frz o (.tup vs)) ∧ o.cls = .type "tuple" ∧ o.dict = none) ∨
    ∃ (o : Obj) (its : Array Value) (n : Nat), K.lookup a = some o ∧ o.cls = .type "tuple" ∧ o.dict = none ∧ o.data = .seq its n ∧ its.size ≤ sizeLine ∧ Vals vs its.toList
theorem PlT.sq {K : PySem.W.Frag} {F : Hp} {a : Addr} {vs : List V} (h : PlT K F a vs) : SqT K F a vs := by
  rcases h with ⟨o, h, _⟩ | ⟨o, its, n, a1, a2, _, a3, a4, a5⟩
  · exact .inl (.inr ⟨o, h⟩)
  · exact .inr ⟨o, its, n, a1, a2, a3, a4, a5⟩
theorem PlT.mono {K : PySem.W.Frag} {F F' : Hp} {a : Addr} {vs : List V} (s : Same F F') (h : PlT K F a vs) : PlT K F' a vs := by
  rcases h with ⟨o, h, q⟩ | h
  · exact .inl ⟨o, s _ _ h, q⟩
  · exact .inr h
mutual
/-- the value v bears the data d, all of it in F -/
def Rep (K : PySem.W.Frag) (F : Hp) : D → V → Prop
  | .non, v => v = .non
  | .bl b, v => v = .bl b
  | .int i, v => v = .int i
  | .str s, v => v = .str s
  | .ty n, v => v = .ty n
  | .tup ds, v => ∃ a vs, v = .ref a ∧ PlT K F a vs ∧ Reps K F ds vs
  | .pr ds, v => ∃ a vs, v = .ref a ∧ SqT K F a vs ∧ Reps K F ds vs
  | .lst ds, v => ∃ a vs, v = .ref a ∧ F a = some (.lst vs) ∧ Reps K F ds vs
  | .scr ds, v => ∃ a vs, v = .ref a ∧ SqL K F a vs ∧ Reps K F ds vs
  | .dic kvs, v => ∃ a vs, v = .ref a ∧ F a = some (.dK vs) ∧ RepsK K F kvs vs
  | .dit kvs, v => ∃ a vs, v = .ref a ∧ F a = some (.dT vs) ∧ RepsT K F kvs vs
def Reps (K : PySem.W.Frag) (F : Hp) : List D → List V → Prop
  | [], vs => vs = []
  | d :: ds, vs => ∃ v r, vs = v :: r ∧ Rep K F d v ∧ Reps K F ds r
def RepsK (K : PySem.W.Frag) (F : Hp) : List (Key × D) → List (Key × V) → Prop
  | [], vs => vs = []
  | (k, d) :: ds, vs => ∃ v r, vs = (k, v) :: r ∧ Rep K F d v ∧ RepsK K F ds r
def RepsT (K : PySem.W.Frag) (F : Hp) : List (List Key × D) → List (List Key × V) → Prop
  | [], vs => vs = []
  | (k, d) :: ds, vs => ∃ v r, vs = (k, v) :: r ∧ Rep K F d v ∧ RepsT K F ds r
end
section
variable {K : PySem.W.Frag} {F F' : Hp}
theorem sqT_mono {a : Addr} {xs : List V} (s : Same F F') (h : SqT K F a xs) : SqT K F' a xs := by
  rcases h with (h | ⟨o, h⟩) | h
  · exact .inl (.inl (s _ _ h))
  · exact .inl (.inr ⟨o, s _ _ h⟩)
  · exact .inr h
theorem sqL_mono {a : Addr} {xs : List V} (s : Same F F') (h : SqL K F a xs) : SqL K F' a xs := by
  rcases h with (h | ⟨o, h⟩) | h
  · exact .inl (.inl (s _ _ h))
  · exact .inl (.inr ⟨o, s _ _ h⟩)
  · exact .inr h
mutual
theorem Rep.mono (s : Same F F') : ∀ (d : D) (v : V), Rep K F d v → Rep K F' d v
  | .non, v, h => by rw [Rep] at h ⊢; exact h
  | .bl b, v, h => by rw [Rep] at h ⊢; exact h
  | .int i, v, h => by rw [Rep] at h ⊢; exact h
  | .str x, v, h => by rw [Rep] at h ⊢; exact h
  | .ty x, v, h => by rw [Rep] at h ⊢; exact h
  | .tup ds, v, h => by rw [Rep] at h ⊢; obtain ⟨a, vs, e, q, r⟩ := h; exact ⟨a, vs, e, q.mono s, Reps.mono s ds vs r⟩
  | .pr ds, v, h => by rw [Rep] at h ⊢; obtain ⟨a, vs, e, q, r⟩ := h; exact ⟨a, vs, e, sqT_mono s q, Reps.mono s ds vs r⟩
  | .lst ds, v, h => by rw [Rep] at h ⊢; obtain ⟨a, vs, e, q, r⟩ := h; exact ⟨a, vs, e, s _ _ q, Reps.mono s ds vs r⟩
  | .scr ds, v, h => by rw [Rep] at h ⊢; obtain ⟨a, vs, e, q, r⟩ := h; exact ⟨a, vs, e, sqL_mono s q, Reps.mono s ds vs r⟩
  | .dic ds, v, h => by rw [Rep] at h ⊢; obtain ⟨a, vs, e, q, r⟩ := h; exact ⟨a, vs, e, s _ _ q, RepsK.mono s ds vs r⟩
  | .dit ds, v, h => by rw [Rep] at h ⊢; obtain ⟨a, vs, e, q, r⟩ := h; exact ⟨a, vs, e, s _ _ q, RepsT.mono s ds vs r⟩
theorem Reps.mono (s : Same F F') : ∀ (d : List D) (v : List V), Reps K F d v → Reps K F' d v
  | [], v, h => by rw [Reps] at h ⊢; exact h
  | d :: ds, vs, h => by rw [Reps] at h ⊢; obtain ⟨v, r, e, a, b⟩ := h; exact ⟨v, r, e, Rep.mono s d v a, Reps.mono s ds r b⟩
theorem RepsK.mono (s : Same F F') : ∀ (d : List (Key × D)) (v : List (Key × V)), RepsK K F d v → RepsK K F' d v
  | [], v, h => by rw [RepsK] at h ⊢; exact h
  | (k, d) :: ds, vs, h => by rw [RepsK] at h ⊢; obtain ⟨v, r, e, a, b⟩ := h; exact ⟨v, r, e, Rep.mono s d v a, RepsK.mono s ds r b⟩
theorem RepsT.mono (s : Same F F') : ∀ (d : List (List Key × D)) (v : List (List Key × V)), RepsT K F d v → RepsT K F' d v
  | [], v, h => by rw [RepsT] at h ⊢; exact h
  | (k, d) :: ds, vs, h => by rw [RepsT] at h ⊢; obtain ⟨v, r, e, a, b⟩ := h; exact ⟨v, r, e, Rep.mono s d v a, RepsT.mono s ds r b⟩
end
theorem Reps.length : ∀ {ds : List D} {vs : List V}, Reps K F ds vs → ds.length = vs.length
  | [], vs, h => by rw [Reps] at h; subst h; rfl
  | d :: ds, vs, h => by rw [Reps] at h; obtain ⟨v, r, rfl, a, b⟩ := h; simp [Reps.length b]
theorem Reps.get : ∀ {ds : List D} {vs : List V} {i : Nat} {d : D}, Reps K F ds vs → ds[i]? = some d → ∃ v, vs[i]? = some v ∧ Rep K F d v
  | [], vs, i, d, h, e => by simp at e
  | d :: ds, vs, 0, d', h, e => by rw [Reps] at h; obtain ⟨v, r, rfl, a, b⟩ := h; simp at e; subst e; exact ⟨v, rfl, a⟩
  | d :: ds, vs, i + 1, d', h, e => by rw [Reps] at h; obtain ⟨v, r, rfl, a, b⟩ := h; simp at e; obtain ⟨u, h1, h2⟩ := Reps.get b e; exact ⟨u, by simpa using h1, h2⟩
theorem Reps.get' {ds : List D} {vs : List V} {i : Nat} {v : V} (h : Reps K F ds vs) (e : vs[i]? = some v) : ∃ d, ds[i]? = some d ∧ Rep K F d v := by
  have hl := h.length
  have hi : i < vs.length := (List.getElem?_eq_some_iff.mp e).1
  have e2 : ds[i]? = some (ds[i]'(by omega)) := List.getElem?_eq_getElem (by omega)
  obtain ⟨u, h1, h2⟩ := h.get e2
  rw [e] at h1; cases h1
  exact ⟨_, e2, h2⟩
theorem Reps.append : ∀ {ds : List D} {vs : List V} {es : List D} {us : List V}, Reps K F ds vs → Reps K F es us → Reps K F (ds ++ es) (vs ++ us)
  | [], vs, es, us, h, q => by rw [Reps] at h; subst h; exact q
  | d :: ds, vs, es, us, h, q => by rw [Reps] at h; obtain ⟨v, r, rfl, a, b⟩ := h; rw [List.cons_append, Reps]; exact ⟨v, r ++ us, rfl, a, Reps.append b q⟩
theorem Reps.take : ∀ {ds : List D} {vs : List V} (n : Nat), Reps K F ds vs → Reps K F (ds.take n) (vs.take n)
  | ds, vs, 0, h => by simp [Reps]
  | [], vs, n + 1, h => by rw [Reps] at h; subst h; simp [Reps]
  | d :: ds, vs, n + 1, h => by rw [Reps] at h; obtain ⟨v, r, rfl, a, b⟩ := h; simp only [List.take_succ_cons]; rw [Reps]; exact ⟨v, r.take n, rfl, a, Reps.take n b⟩
theorem Reps.drop : ∀ {ds : List D} {vs : List V} (n : Nat), Reps K F ds vs → Reps K F (ds.drop n) (vs.drop n)
  | ds, vs, 0, h => by simpa using h
  | [], vs, n + 1, h => by rw [Reps] at h; subst h; simp [Reps]
  | d :: ds, vs, n + 1, h => by rw [Reps] at h; obtain ⟨v, r, rfl, a, b⟩ := h; simp only [List.drop_succ_cons]; exact Reps.drop n b
theorem Reps.set : ∀ {ds : List D} {vs : List V} (n : Nat) {d : D} {v : V}, Reps K F ds vs → Rep K F d v → Reps K F (ds.set n d) (vs.set n v)
  | [], vs, n, d, v, h, q => by rw [Reps] at h; subst h; simp [Reps]
  | d :: ds, vs, 0, d', v', h, q => by rw [Reps] at h; obtain ⟨v, r, rfl, a, b⟩ := h; simp only [List.set_cons_zero]; rw [Reps]; exact ⟨v', r, rfl, q, b⟩
  | d :: ds, vs, n + 1, d', v', h, q => by rw [Reps] at h; obtain ⟨v, r, rfl, a, b⟩ := h; simp only [List.set_cons_succ]; rw [Reps]; exact ⟨v, _, rfl, a, Reps.set n b q⟩
theorem Reps.one {d : D} {v : V} (h : Rep K F d v) : Reps K F [d] [v] := by rw [Reps]; exact ⟨v, [], rfl, h, by rw [Reps]⟩
theorem Reps.nil : Reps K F [] [] := by rw [Reps]
theorem Reps.cons {d : D} {v : V} {ds : List D} {vs : List V} (h : Rep K F d v) (q : Reps K F ds vs) : Reps K F (d :: ds) (v :: vs) := by rw [Reps]; exact ⟨v, vs, rfl, h, q⟩
theorem Reps.dropLast {ds : List D} {vs : List V} (h : Reps K F ds vs) : Reps K F ds.dropLast vs.dropLast := by
  rw [List.dropLast_eq_take, List.dropLast_eq_take, h.length]; exact h.take _
theorem Reps.rep {ds : List D} {vs : List V} (h : Reps K F ds vs) : ∀ k : Nat, Reps K F (List.replicate k ds).flatten (List.replicate k vs).flatten
  | 0 => by simp [Reps]
  | k + 1 => by simp only [List.replicate_succ, List.flatten_cons]; exact h.append (Reps.rep h k)
theorem Reps.reverse : ∀ {ds : List D} {vs : List V}, Reps K F ds vs → Reps K F ds.reverse vs.reverse
  | [], vs, h => by rw [Reps] at h; subst h; simp [Reps]
  | d :: ds, vs, h => by rw [Reps] at h; obtain ⟨v, r, rfl, a, b⟩ := h; simp only [List.reverse_cons]; exact (Reps.reverse b).append (Reps.one a)
theorem Reps.eraseIdx {ds : List D} {vs : List V} (h : Reps K F ds vs) (n : Nat) : Reps K F (ds.eraseIdx n) (vs.eraseIdx n) := by
  rw [List.eraseIdx_eq_take_drop_succ, List.eraseIdx_eq_take_drop_succ]; exact (h.take n).append (h.drop (n + 1))
theorem RepsK.length : ∀ {ds : List (Key × D)} {vs : List (Key × V)}, RepsK K F ds vs → ds.length = vs.length
  | [], vs, h => by rw [RepsK] at h; subst h; rfl
  | (k, d) :: ds, vs, h => by rw [RepsK] at h; obtain ⟨v, r, rfl, a, b⟩ := h; simp [RepsK.length b]
end
/-! ### 2. objects, slots, outcomes -/
inductive Ob where
  | lst (ds : List D) | dic (kvs : List (Key × D)) | dit (kvs : List (List Key × D))
  deriving Inhabited
def Ob.val : Ob → D
  | .lst ds => .lst ds
  | .dic kvs => .dic kvs
  | .dit kvs => .dit kvs
/-- what stands at an address, h, is the object o, its parts in F -/
def ObAt (K : PySem.W.Frag) (F : Hp) (h : Option HO) : Ob → Prop
  | .lst ds => ∃ vs, h = some (.lst vs) ∧ Reps K F ds vs
  | .dic kvs => ∃ vs, h = some (.dK vs) ∧ RepsK K F kvs vs
  | .dit kvs => ∃ vs, h = some (.dT vs) ∧ RepsT K F kvs vs
theorem ObAt.mono {K : PySem.W.Frag} {F F' : Hp} {h : Option HO} (s : Same F F') : ∀ {o : Ob}, ObAt K F h o → ObAt K F' h o
  | .lst _, ⟨vs, e, r⟩ => ⟨vs, e, r.mono s⟩
  | .dic _, ⟨vs, e, r⟩ => ⟨vs, e, r.mono s⟩
  | .dit _, ⟨vs, e, r⟩ => ⟨vs, e, r.mono s⟩
theorem ObAt.live {K : PySem.W.Frag} {F : Hp} {h : Option HO} : ∀ {o : Ob}, ObAt K F h o → ∃ u, h = some u
  | .lst _, ⟨vs, e, r⟩ => ⟨_, e⟩
  | .dic _, ⟨vs, e, r⟩ => ⟨_, e⟩
  | .dit _, ⟨vs, e, r⟩ => ⟨_, e⟩
/-- frozen where it stands -/
theorem ObAt.rep {K : PySem.W.Frag} {F : Hp} {a : Addr} {u : HO} : ∀ {o : Ob}, ObAt K F (some u) o → F a = some u → Rep K F o.val (.ref a)
  | .lst _, ⟨vs, e, r⟩, q => by cases e; rw [Ob.val, Rep]; exact ⟨a, vs, rfl, q, r⟩
  | .dic _, ⟨vs, e, r⟩, q => by cases e; rw [Ob.val, Rep]; exact ⟨a, vs, rfl, q, r⟩
  | .dit _, ⟨vs, e, r⟩, q => by cases e; rw [Ob.val, Rep]; exact ⟨a, vs, rfl, q, r⟩
inductive Slot where
  | un | fz (d : D) | ow (o : Ob) | io (o : Ob) | bw (o : Ob)
  deriving Inhabited
def Slot.own : Slot → Option Ob
  | .ow o => some o
  | .io o => some o
  | .bw o => some o
  | _ => none
def Slot.pin : Slot → Bool
  | .io _ => true
  | .bw _ => true
  | _ => false
abbrev En := List Slot
structure Exc where
  cls : Nat
  args : List D
inductive Out (α : Type) where
  | ok (a : α) (e : En)
  | exc (x : Exc) (e : En)
  | stuck
def Out.post {α : Type} (Q : α → En → Prop) (E : Exc → En → Prop) : Out α → Prop
  | .ok a e => Q a e
  | .exc x e => E x e
  | .stuck => False
abbrev M (α : Type) := En → Out α
def ret {α : Type} (a : α) : M α := fun e => .ok a e
def bnd {α β : Type} (m : M α) (f : α → M β) : M β := fun e => match m e with
  | .ok a e' => f a e'
  | .exc x e' => .exc x e'
  | .stuck => .stuck
def fail {α : Type} : M α := fun _ => .stuck
theorem post_bnd {α β : Type} {m : M α} {f : α → M β} {e : En} {Q : β → En → Prop} {E : Exc → En → Prop} : (bnd m f e).post Q E ↔ (m e).post (fun a e' => (f a e').post Q E) E := by
  unfold bnd
  cases m e <;> exact Iff.rfl
theorem Out.post_imp {α : Type} {o : Out α} {Q Q' : α → En → Prop} {E E' : Exc → En → Prop} (h : o.post Q E) (hq : ∀ a e, Q a e → Q' a e) (he : ∀ x e, E x e → E' x e) : o.post Q' E' := by
  cases o with
  | ok a e => exact hq a e h
  | exc x e => exact he x e h
  | stuck => exact h
/-- a result: a value, a new object, the object of a slot -/
inductive Rv where
  | v (d : D) | o (ob : Ob) | s (i : Nat)
  deriving Inhabited
def viewAt (e : En) (i : Nat) : Option D := match e[i]? with
  | some (.fz d) => some d
  | some s => s.own.map Ob.val
  | none => none
def Rv.view (e : En) : Rv → Option D
  | .v d => some d
  | .o ob => some ob.val
  | .s i => viewAt e i
end PV

namespace PV
open PySem PySem.Spec L2
/-! ### 3. the frame's relation -/
/-- the entry: the heap, the frozen part, the addresses that are given to be changed, the pinned slots -/
structure Gh where
  H : Hp
  F : Hp
  O : Addr → Prop
  W : Addr → Prop
  P : Nat → Addr → Prop
def SlotOk (K : PySem.W.Frag) (F H : Hp) : Slot → Option V → Prop
  | .un, _ => True
  | .fz d, v => ∃ x, v = some x ∧ Rep K F d x
  | .ow o, v => ∃ a, v = some (.ref a) ∧ ObAt K F (H a) o ∧ F a = none
  | .io o, v => ∃ a, v = some (.ref a) ∧ ObAt K F (H a) o ∧ F a = none
  | .bw o, v => ∃ a, v = some (.ref a) ∧ ObAt K F (H a) o ∧ F a = none
structure Rel (K : PySem.W.Frag) (g : Gh) (F : Hp) (e : En) (σ : St) (H : Hp) : Prop where
  len : e.length = σ.length
  sub : Same F H
  slot : ∀ (i : Nat) (s : Slot) (v : Option V), e[i]? = some s → σ[i]? = some v → SlotOk K F H s v
  sep : ∀ (i j : Nat) (s t : Slot) (o u : Ob) (a : Addr), e[i]? = some s → e[j]? = some t → s.own = some o → t.own = some u → σ[i]? = some (some (.ref a)) → σ[j]? = some (some (.ref a)) → i = j
  fre : ∀ (i : Nat) (o : Ob) (a : Addr), e[i]? = some (.ow o) → σ[i]? = some (some (.ref a)) → g.H a = none ∨ g.W a
  ino : ∀ (i : Nat) (o : Ob) (a : Addr), e[i]? = some (.io o) → σ[i]? = some (some (.ref a)) → g.O a
  old : ∀ (a : Addr) (o : HO), g.H a = some o → ¬ g.O a → ¬ g.W a → H a = some o
  liv : ∀ a : Addr, g.O a ∨ g.W a → ∃ o, H a = some o
  fold : Same g.F F
  fnew : ∀ (a : Addr) (o : HO), F a = some o → g.F a = some o ∨ g.H a = none ∨ g.W a
  pin : ∀ (i : Nat) (a : Addr), g.P i a → σ[i]? = some (some (.ref a)) ∧ ∃ s : Slot, e[i]? = some s ∧ s.pin = true
  bwp : ∀ (i : Nat) (o : Ob) (a : Addr), e[i]? = some (.bw o) → σ[i]? = some (some (.ref a)) → g.P i a
section
variable {K : PySem.W.Frag} {g : Gh} {F F' H H' : Hp} {e : En} {σ : St}
/-- an own slot's address, its object -/
theorem Rel.ownAt (R : Rel K g F e σ H) {i : Nat} {s : Slot} {o : Ob} (h : e[i]? = some s) (ho : s.own = some o) : ∃ a, σ[i]? = some (some (.ref a)) ∧ ObAt K F (H a) o ∧ F a = none := by
  have hi : i < e.length := (List.getElem?_eq_some_iff.mp h).1
  have hl := R.len
  have hv : σ[i]? = some (σ[i]'(by omega)) := List.getElem?_eq_getElem (by omega)
  have q := R.slot i s _ h hv
  cases s with
  | un => cases ho
  | fz d => cases ho
  | ow u => cases ho; obtain ⟨a, e1, e2, e3⟩ := q; rw [e1] at hv; exact ⟨a, hv, e2, e3⟩
  | io u => cases ho; obtain ⟨a, e1, e2, e3⟩ := q; rw [e1] at hv; exact ⟨a, hv, e2, e3⟩
  | bw u => cases ho; obtain ⟨a, e1, e2, e3⟩ := q; rw [e1] at hv; exact ⟨a, hv, e2, e3⟩
theorem Rel.fzAt (R : Rel K g F e σ H) {i : Nat} {d : D} (h : e[i]? = some (.fz d)) : ∃ v, σ[i]? = some (some v) ∧ Rep K F d v := by
  have hi : i < e.length := (List.getElem?_eq_some_iff.mp h).1
  have hl := R.len
  have hv : σ[i]? = some (σ[i]'(by omega)) := List.getElem?_eq_getElem (by omega)
  obtain ⟨x, e1, e2⟩ := R.slot i _ _ h hv
  rw [e1] at hv
  exact ⟨x, hv, e2⟩
theorem Rel.fresh (R : Rel K g F e σ H) {p : Addr} (hp : H p = none) : g.H p = none := by
  cases hg : g.H p with
  | none => rfl
  | some o =>
    by_cases hO : g.O p ∨ g.W p
    · obtain ⟨u, hu⟩ := R.liv p hO; rw [hp] at hu; cases hu
    · have := R.old p o hg (fun z => hO (.inl z)) (fun z => hO (.inr z)); rw [hp] at this; cases this
theorem Rel.freshF (R : Rel K g F e σ H) {p : Addr} (hp : H p = none) : F p = none := by
  cases hg : F p with
  | none => rfl
  | some o => have := R.sub p o hg; rw [hp] at this; cases this
theorem SlotOk.keep {s : Slot} {v : Option V} (h : SlotOk K F H s v) (hF : Same F F') (hH : ∀ a o, v = some (.ref a) → s.own = some o → H' a = H a ∧ F' a = none) : SlotOk K F' H' s v := by
  cases s with
  | un => trivial
  | fz d => obtain ⟨x, e1, e2⟩ := h; exact ⟨x, e1, e2.mono hF⟩
  | ow o => obtain ⟨a, e1, e2, e3⟩ := h; obtain ⟨k1, k2⟩ := hH a o e1 rfl; exact ⟨a, e1, by rw [k1]; exact e2.mono hF, k2⟩
  | io o => obtain ⟨a, e1, e2, e3⟩ := h; obtain ⟨k1, k2⟩ := hH a o e1 rfl; exact ⟨a, e1, by rw [k1]; exact e2.mono hF, k2⟩
  | bw o => obtain ⟨a, e1, e2, e3⟩ := h; obtain ⟨k1, k2⟩ := hH a o e1 rfl; exact ⟨a, e1, by rw [k1]; exact e2.mono hF, k2⟩
theorem SlotOk.live {s : Slot} {v : Option V} {a : Addr} {o : Ob} (h : SlotOk K F H s v) (hv : v = some (.ref a)) (ho : s.own = some o) : (∃ u, H a = some u) ∧ F a = none ∧ ObAt K F (H a) o := by
  cases s with
  | un => cases ho
  | fz d => cases ho
  | ow u => cases ho; obtain ⟨b, e1, e2, e3⟩ := h; rw [hv] at e1; cases e1; exact ⟨e2.live, e3, e2⟩
  | io u => cases ho; obtain ⟨b, e1, e2, e3⟩ := h; rw [hv] at e1; cases e1; exact ⟨e2.live, e3, e2⟩
  | bw u => cases ho; obtain ⟨b, e1, e2, e3⟩ := h; rw [hv] at e1; cases e1; exact ⟨e2.live, e3, e2⟩
/-- a new object stands in the heap -/
theorem Rel.alloc (R : Rel K g F e σ H) {p : Addr} (o : HO) (hp : H p = none) : Rel K g F e σ (upd H p o) := by
  refine { R with sub := ?_, slot := ?_, old := ?_, liv := ?_ }
  · intro a u h; have := R.sub a u h; rw [upd_ne]; exact this; intro z; subst z; rw [hp] at this; cases this
  · intro i s v h1 h2
    refine (R.slot i s v h1 h2).keep (fun _ _ q => q) fun a u hv ho => ?_
    obtain ⟨⟨u, hu⟩, hf, _⟩ := (R.slot i s v h1 h2).live hv ho
    exact ⟨upd_ne (by intro z; subst z; rw [hp] at hu; cases hu), hf⟩
  · intro a u h1 h2 h3; have := R.old a u h1 h2 h3; rw [upd_ne]; exact this; intro z; subst z; rw [hp] at this; cases this
  · intro a h1; obtain ⟨u, hu⟩ := R.liv a h1; exact ⟨u, by rw [upd_ne]; exact hu; intro z; subst z; rw [hp] at hu; cases hu⟩
/-- no own slot stands at a -/
def NoOwn (e : En) (σ : St) (a : Addr) : Prop := ∀ (i : Nat) (s : Slot) (o : Ob), e[i]? = some s → s.own = some o → σ[i]? ≠ some (some (.ref a))
/-- what stands at a is frozen -/
theorem Rel.freeze (R : Rel K g F e σ H) {a : Addr} {o : HO} (hH : H a = some o) (hF : F a = none) (hn : NoOwn e σ a) (hg : g.H a = none ∨ g.W a) : Rel K g (upd F a o) e σ H := by
  have s1 : Same F (upd F a o) := fun b u h => by rw [upd_ne]; exact h; intro z; subst z; rw [hF] at h; cases h
  refine { R with sub := ?_, slot := ?_, fold := ?_, fnew := ?_ }
  · intro b u h; by_cases z : b = a
    · subst z; rw [upd_same] at h; cases h; exact hH
    · rw [upd_ne z] at h; exact R.sub b u h
  · intro i s v h1 h2
    refine (R.slot i s v h1 h2).keep s1 fun b u hv ho => ⟨rfl, ?_⟩
    obtain ⟨_, hf, _⟩ := (R.slot i s v h1 h2).live hv ho
    rw [upd_ne]; exact hf
    intro z; subst z; exact hn i s u h1 ho (by rw [h2, hv])
  · intro b u h; exact s1 b u (R.fold b u h)
  · intro b u h; by_cases z : b = a
    · subst z; exact .inr hg
    · rw [upd_ne z] at h; exact R.fnew b u h
theorem get_set {α : Type} {l : List α} {i j : Nat} {x y : α} (h : (l.set i x)[j]? = some y) : (j = i ∧ y = x ∧ i < l.length) ∨ (j ≠ i ∧ l[j]? = some y) := by
  rw [List.getElem?_set] at h
  by_cases z : i = j
  · subst z; rw [if_pos rfl] at h; split at h
    · cases h; exact .inl ⟨rfl, rfl, by assumption⟩
    · cases h
  · rw [if_neg z] at h; exact .inr ⟨fun q => z q.symm, h⟩
/-- a slot's state is changed, not what it holds: from own to frozen -/
theorem Rel.frz (R : Rel K g F e σ H) {i : Nat} {o : Ob} (h : e[i]? = some (.ow o)) : ∃ a F', σ[i]? = some (some (.ref a)) ∧ Same F F' ∧ Rep K F' o.val (.ref a) ∧ Rel K g F' (e.set i (.fz o.val)) σ H := by
  obtain ⟨a, h1, h2, h3⟩ := R.ownAt h rfl
  obtain ⟨u, hu⟩ := h2.live
  have s1 : Same F (upd F a u) := fun b w h => by rw [upd_ne]; exact h; intro z; subst z; rw [h3] at h; cases h
  rw [hu] at h2
  have rp : Rep K (upd F a u) o.val (.ref a) := (h2.mono s1).rep upd_same
  have il : i < e.length := (List.getElem?_eq_some_iff.mp h).1
  refine ⟨a, upd F a u, h1, s1, rp, ?_⟩
  have R0 : Rel K g F (e.set i (.fz o.val)) σ H ∨ True := .inr trivial
  refine ⟨by rw [List.length_set]; exact R.len, ?_, ?_, ?_, ?_, ?_, R.old, R.liv, ?_, ?_, ?_, ?_⟩
  · intro b w h; by_cases z : b = a
    · subst z; rw [upd_same] at h; cases h; exact hu
    · rw [upd_ne z] at h; exact R.sub b w h
  · intro j s v q1 q2
    rcases get_set q1 with ⟨rfl, rfl, _⟩ | ⟨z, q1⟩
    · rw [h1] at q2; cases q2; exact ⟨_, rfl, rp⟩
    · refine (R.slot j s v q1 q2).keep s1 fun b w hv ho => ⟨rfl, ?_⟩
      obtain ⟨_, hf, _⟩ := (R.slot j s v q1 q2).live hv ho
      rw [upd_ne]; exact hf
      intro zz; subst zz; exact z (R.sep j i s _ w o b q1 h ho rfl (by rw [q2, hv]) h1)
  · intro j k s t w x b q1 q2 o1 o2 r1 r2
    rcases get_set q1 with ⟨rfl, rfl, _⟩ | ⟨z, q1⟩
    · cases o1
    · rcases get_set q2 with ⟨rfl, rfl, _⟩ | ⟨z2, q2⟩
      · cases o2
      · exact R.sep j k s t w x b q1 q2 o1 o2 r1 r2
  · intro j w b q1 r1
    rcases get_set q1 with ⟨_, zz, _⟩ | ⟨z, q1⟩
    · cases zz
    · exact R.fre j w b q1 r1
  · intro j w b q1 r1
    rcases get_set q1 with ⟨_, zz, _⟩ | ⟨z, q1⟩
    · cases zz
    · exact R.ino j w b q1 r1
  · intro b w q; exact s1 b w (R.fold b w q)
  · intro b w q; by_cases z : b = a
    · subst z; exact .inr (R.fre i o b h h1)
    · rw [upd_ne z] at q; exact R.fnew b w q
  · intro j b q
    obtain ⟨p1, s, p2, p3⟩ := R.pin j b q
    refine ⟨p1, s, ?_, p3⟩
    rw [List.getElem?_set]
    by_cases z : i = j
    · subst z; rw [h] at p2; cases p2; cases p3
    · rw [if_neg z]; exact p2
  · intro j w b q1 r1
    rcases get_set q1 with ⟨_, zz, _⟩ | ⟨z, q1⟩
    · cases zz
    · exact R.bwp j w b q1 r1
/-- a slot gets a frozen value -/
theorem Rel.put (R : Rel K g F e σ H) {i : Nat} {d : D} {v : V} (hr : Rep K F d v) (hp : ∀ s : Slot, e[i]? = some s → s.pin = false) : Rel K g F (e.set i (.fz d)) (σ.set i (some v)) H := by
  refine ⟨by rw [List.length_set, List.length_set]; exact R.len, R.sub, ?_, ?_, ?_, ?_, R.old, R.liv, R.fold, R.fnew, ?_, ?_⟩
  · intro j s w q1 q2
    rcases get_set q1 with ⟨rfl, rfl, _⟩ | ⟨z, q1⟩
    · rcases get_set q2 with ⟨_, rfl, _⟩ | ⟨z, _⟩
      · exact ⟨v, rfl, hr⟩
      · exact absurd rfl z
    · rcases get_set q2 with ⟨zz, _, _⟩ | ⟨z, q2⟩
      · exact absurd zz z
      · exact R.slot j s w q1 q2
  · intro j k s t w x b q1 q2 o1 o2 r1 r2
    rcases get_set q1 with ⟨rfl, rfl, _⟩ | ⟨z, q1⟩
    · cases o1
    · rcases get_set q2 with ⟨rfl, rfl, _⟩ | ⟨z2, q2⟩
      · cases o2
      · rcases get_set r1 with ⟨zz, _, _⟩ | ⟨_, r1⟩
        · exact absurd zz z
        · rcases get_set r2 with ⟨zz, _, _⟩ | ⟨_, r2⟩
          · exact absurd zz z2
          · exact R.sep j k s t w x b q1 q2 o1 o2 r1 r2
  · intro j w b q1 r1
    rcases get_set q1 with ⟨_, zz, _⟩ | ⟨z, q1⟩
    · cases zz
    · rcases get_set r1 with ⟨zz, _, _⟩ | ⟨_, r1⟩
      · exact absurd zz z
      · exact R.fre j w b q1 r1
  · intro j w b q1 r1
    rcases get_set q1 with ⟨_, zz, _⟩ | ⟨z, q1⟩
    · cases zz
    · rcases get_set r1 with ⟨zz, _, _⟩ | ⟨_, r1⟩
      · exact absurd zz z
      · exact R.ino j w b q1 r1
  · intro j b q
    obtain ⟨p1, s, p2, p3⟩ := R.pin j b q
    have z : i ≠ j := by intro z; subst z; rw [hp s p2] at p3; cases p3
    exact ⟨by rw [List.getElem?_set, if_neg z]; exact p1, s, by rw [List.getElem?_set, if_neg z]; exact p2, p3⟩
  · intro j w b q1 r1
    rcases get_set q1 with ⟨_, zz, _⟩ | ⟨z, q1⟩
    · cases zz
    · rcases get_set r1 with ⟨zz, _, _⟩ | ⟨_, r1⟩
      · exact absurd zz z
      · exact R.bwp j w b q1 r1
/-- a slot gets a new object -/
theorem Rel.putOw (R : Rel K g F e σ H) {i : Nat} {o : Ob} {a : Addr} (ho : ObAt K F (H a) o) (hF : F a = none) (hg : g.H a = none ∨ g.W a) (hn : NoOwn e σ a) (hp : ∀ s : Slot, e[i]? = some s → s.pin = false) :
    Rel K g F (e.set i (.ow o)) (σ.set i (some (.ref a))) H := by
  refine ⟨by rw [List.length_set, List.length_set]; exact R.len, R.sub, ?_, ?_, ?_, ?_, R.old, R.liv, R.fold, R.fnew, ?_, ?_⟩
  · intro j s w q1 q2
    rcases get_set q1 with ⟨rfl, rfl, _⟩ | ⟨z, q1⟩
    · rcases get_set q2 with ⟨_, rfl, _⟩ | ⟨z, _⟩
      · exact ⟨a, rfl, ho, hF⟩
      · exact absurd rfl z
    · rcases get_set q2 with ⟨zz, _, _⟩ | ⟨z, q2⟩
      · exact absurd zz z
      · exact R.slot j s w q1 q2
  · intro j k s t w x b q1 q2 o1 o2 r1 r2
    rcases get_set q1 with ⟨rfl, rfl, _⟩ | ⟨z, q1⟩
    · rcases get_set r1 with ⟨_, zz, _⟩ | ⟨z, _⟩
      · cases zz
        rcases get_set q2 with ⟨rfl, rfl, _⟩ | ⟨z2, q2⟩
        · rfl
        · rcases get_set r2 with ⟨zz, _, _⟩ | ⟨_, r2⟩
          · exact absurd zz z2
          · exact absurd r2 (hn k t x q2 o2)
      · exact absurd rfl z
    · rcases get_set r1 with ⟨zz, _, _⟩ | ⟨_, p1⟩
      · exact absurd zz z
      · have m1 := hn j s w q1 o1
        clear r1
        have r1 := p1
        rcases get_set q2 with ⟨rfl, rfl, _⟩ | ⟨z2, q2⟩
        · rcases get_set r2 with ⟨_, zz, _⟩ | ⟨zz, _⟩
          · cases zz; exact absurd r1 m1
          · exact absurd rfl zz
        · rcases get_set r2 with ⟨zz, _, _⟩ | ⟨_, r2⟩
          · exact absurd zz z2
          · exact R.sep j k s t w x b q1 q2 o1 o2 r1 r2
  · intro j w b q1 r1
    rcases get_set q1 with ⟨rfl, zz, _⟩ | ⟨z, q1⟩
    · rcases get_set r1 with ⟨_, zz, _⟩ | ⟨zz, _⟩
      · cases zz; exact hg
      · exact absurd rfl zz
    · rcases get_set r1 with ⟨zz, _, _⟩ | ⟨_, r1⟩
      · exact absurd zz z
      · exact R.fre j w b q1 r1
  · intro j w b q1 r1
    rcases get_set q1 with ⟨_, zz, _⟩ | ⟨z, q1⟩
    · cases zz
    · rcases get_set r1 with ⟨zz, _, _⟩ | ⟨_, r1⟩
      · exact absurd zz z
      · exact R.ino j w b q1 r1
  · intro j b q
    obtain ⟨p1, s, p2, p3⟩ := R.pin j b q
    have z : i ≠ j := by intro z; subst z; rw [hp s p2] at p3; cases p3
    exact ⟨by rw [List.getElem?_set, if_neg z]; exact p1, s, by rw [List.getElem?_set, if_neg z]; exact p2, p3⟩
  · intro j w b q1 r1
    rcases get_set q1 with ⟨_, zz, _⟩ | ⟨z, q1⟩
    · cases zz
    · rcases get_set r1 with ⟨zz, _, _⟩ | ⟨_, r1⟩
      · exact absurd zz z
      · exact R.bwp j w b q1 r1
/-- the states of slots that may be written -/
inductive Wr : Slot → Ob → Ob → Slot → Prop
  | ow (o u : Ob) : Wr (.ow o) o u (.ow u)
  | io (o u : Ob) : Wr (.io o) o u (.io u)
/-- an own object is written -/
theorem Rel.write (R : Rel K g F e σ H) {i : Nat} {s t : Slot} {o u : Ob} {a : Addr} {x : HO} (w : Wr s o u t) (h : e[i]? = some s) (ha : σ[i]? = some (some (.ref a))) (hx : ObAt K F (some x) u) : Rel K g F (e.set i t) σ (upd H a x) := by
  have hso : s.own = some o := by cases w <;> rfl
  have hto : t.own = some u := by cases w <;> rfl
  obtain ⟨b, hb, hob, hFb⟩ := R.ownAt h hso
  rw [ha] at hb; cases hb
  refine ⟨by rw [List.length_set]; exact R.len, ?_, ?_, ?_, ?_, ?_, ?_, ?_, R.fold, R.fnew, ?_, ?_⟩
  · intro b y q; rw [upd_ne]; exact R.sub b y q; intro z; subst z; rw [hFb] at q; cases q
  · intro j s' v q1 q2
    rcases get_set q1 with ⟨rfl, rfl, _⟩ | ⟨z, q1⟩
    · rw [ha] at q2; cases q2
      cases w
      · exact ⟨a, rfl, by rw [upd_same]; exact hx, hFb⟩
      · exact ⟨a, rfl, by rw [upd_same]; exact hx, hFb⟩
    · refine (R.slot j s' v q1 q2).keep (fun _ _ q => q) fun b y hv ho => ?_
      obtain ⟨_, hf, _⟩ := (R.slot j s' v q1 q2).live hv ho
      exact ⟨upd_ne (by intro zz; subst zz; exact z (R.sep j i s' s y o b q1 h ho hso (by rw [q2, hv]) ha)), hf⟩
  · intro j k s' t' w' y b q1 q2 o1 o2 r1 r2
    rcases get_set q1 with ⟨rfl, rfl, _⟩ | ⟨z, q1⟩
    · rcases get_set q2 with ⟨rfl, rfl, _⟩ | ⟨z2, q2⟩
      · rfl
      · exact R.sep j k s t' o y b h q2 hso o2 r1 r2
    · have m1 := fun hh => R.sep j i s' s w' o b q1 hh o1 hso r1
      rcases get_set q2 with ⟨rfl, rfl, _⟩ | ⟨z2, q2⟩
      · exact m1 h r2
      · exact R.sep j k s' t' w' y b q1 q2 o1 o2 r1 r2
  · intro j w' b q1 r1
    rcases get_set q1 with ⟨rfl, zz, _⟩ | ⟨z, q1⟩
    · cases w
      · exact R.fre j o b h r1
      · cases zz
    · exact R.fre j w' b q1 r1
  · intro j w' b q1 r1
    rcases get_set q1 with ⟨rfl, zz, _⟩ | ⟨z, q1⟩
    · cases w
      · cases zz
      · exact R.ino j o b h r1
    · exact R.ino j w' b q1 r1
  · intro b y q1 q2 q3
    rw [upd_ne]; exact R.old b y q1 q2 q3
    intro z; subst z
    cases w
    · rcases R.fre i o b h ha with z | z
      · rw [z] at q1; cases q1
      · exact q3 z
    · exact q2 (R.ino i o b h ha)
  · intro b q
    by_cases z : b = a
    · subst z; exact ⟨x, upd_same⟩
    · obtain ⟨y, hy⟩ := R.liv b q; exact ⟨y, by rw [upd_ne z]; exact hy⟩
  · intro j b q
    obtain ⟨p1, s', p2, p3⟩ := R.pin j b q
    refine ⟨p1, ?_⟩
    by_cases z : i = j
    · subst z
      rw [h] at p2; cases p2
      refine ⟨t, by rw [List.getElem?_set, if_pos rfl, if_pos (List.getElem?_eq_some_iff.mp h).1], ?_⟩
      cases w
      · cases p3
      · rfl
    · exact ⟨s', by rw [List.getElem?_set, if_neg z]; exact p2, p3⟩
  · intro j w' b q1 r1
    rcases get_set q1 with ⟨rfl, zz, _⟩ | ⟨z, q1⟩
    · cases w <;> cases zz
    · exact R.bwp j w' b q1 r1
/-- the entry laid anew: for a part of the body -/
def Gh.at (g : Gh) (F H : Hp) (e : En) (σ : St) : Gh := ⟨H, F, fun a => ∃ (i : Nat) (o : Ob), e[i]? = some (.io o) ∧ σ[i]? = some (some (.ref a)), fun a => ∃ (i : Nat) (o : Ob), e[i]? = some (.ow o) ∧ σ[i]? = some (some (.ref a)), g.P⟩
theorem Rel.rebase (R : Rel K g F e σ H) : Rel K (g.at F H e σ) F e σ H := by
  refine ⟨R.len, R.sub, R.slot, R.sep, ?_, ?_, ?_, ?_, fun _ _ h => h, fun a o h => .inl h, R.pin, R.bwp⟩
  · exact fun i o a h1 h2 => .inr ⟨i, o, h1, h2⟩
  · exact fun i o a h1 h2 => ⟨i, o, h1, h2⟩
  · exact fun a o h _ _ => h
  · rintro a (⟨i, o, h1, h2⟩ | ⟨i, o, h1, h2⟩)
    · obtain ⟨b, b1, b2, _⟩ := R.ownAt h1 rfl
      rw [h2] at b1; cases b1; exact b2.live
    · obtain ⟨b, b1, b2, _⟩ := R.ownAt h1 rfl
      rw [h2] at b1; cases b1; exact b2.live
theorem Rel.unbase (R : Rel K g F e σ H) {e' : En} {σ' : St} {F' H' : Hp} (R' : Rel K (g.at F H e σ) F' e' σ' H') : Rel K g F' e' σ' H' := by
  have w1 : ∀ a, (g.at F H e σ).W a → g.H a = none ∨ g.W a := fun a ⟨i, o, h1, h2⟩ => R.fre i o a h1 h2
  have o1 : ∀ a, (g.at F H e σ).O a → g.O a := fun a ⟨i, o, h1, h2⟩ => R.ino i o a h1 h2
  refine ⟨R'.len, R'.sub, R'.slot, R'.sep, ?_, ?_, ?_, ?_, ?_, ?_, R'.pin, R'.bwp⟩
  · intro i o a h1 h2
    rcases R'.fre i o a h1 h2 with z | z
    · exact .inl (R.fresh z)
    · exact w1 a z
  · exact fun i o a h1 h2 => o1 a (R'.ino i o a h1 h2)
  · intro a o h1 h2 h3
    refine R'.old a o (R.old a o h1 h2 h3) (fun z => h2 (o1 a z)) (fun z => ?_)
    rcases w1 a z with q | q
    · rw [q] at h1; cases h1
    · exact h3 q
  · intro a h
    obtain ⟨o, ho⟩ := R.liv a h
    by_cases z : (g.at F H e σ).O a ∨ (g.at F H e σ).W a
    · exact R'.liv a z
    · exact ⟨o, R'.old a o ho (fun q => z (.inl q)) (fun q => z (.inr q))⟩
  · exact fun a o h => R'.fold a o (R.fold a o h)
  · intro a o h
    rcases R'.fnew a o h with z | z | z
    · exact R.fnew a o z
    · exact .inr (.inl (R.fresh z))
    · rcases w1 a z with q | q
      · exact .inr (.inl q)
      · exact .inr (.inr q)
/-- what is no slot's own stays through a part of the body -/
theorem Rel.stays (R : Rel K g F e σ H) {e' : En} {σ' : St} {F' H' : Hp} (R' : Rel K (g.at F H e σ) F' e' σ' H') {a : Addr} {o : HO} (h : H a = some o) (hn : NoOwn e σ a) : H' a = some o ∧ (F a = none → F' a = none) := by
  have n1 : ¬ (g.at F H e σ).O a := fun ⟨i, u, h1, h2⟩ => hn i _ u h1 rfl h2
  have n2 : ¬ (g.at F H e σ).W a := fun ⟨i, u, h1, h2⟩ => hn i _ u h1 rfl h2
  refine ⟨R'.old a o h n1 n2, fun hF => ?_⟩
  cases q : F' a with
  | none => rfl
  | some u =>
    rcases R'.fnew a u q with z | z | z
    · exact absurd (z.symm.trans hF) (by intro z; cases z)
    · exact absurd (h.symm.trans z) (by intro z; cases z)
    · exact absurd z n2
/-- an object that is no slot's and not frozen is written -/
theorem Rel.other (R : Rel K g F e σ H) {a : Addr} {o : HO} (x : HO) (h : H a = some o) (hF : F a = none) (hg : g.H a = none) (hn : NoOwn e σ a) : Rel K g F e σ (upd H a x) := by
  refine { R with sub := ?_, slot := ?_, old := ?_, liv := ?_ }
  · intro b u q; rw [upd_ne]; exact R.sub b u q; intro z; subst z; rw [hF] at q; cases q
  · intro i s v h1 h2
    refine (R.slot i s v h1 h2).keep (fun _ _ q => q) fun b u hv ho => ?_
    obtain ⟨_, hf, _⟩ := (R.slot i s v h1 h2).live hv ho
    exact ⟨upd_ne (by intro z; subst z; exact hn i s u h1 ho (by rw [h2, hv])), hf⟩
  · intro b u h1 h2 h3; rw [upd_ne]; exact R.old b u h1 h2 h3; intro z; subst z; rw [hg] at h1; cases h1
  · intro b h1; by_cases z : b = a
    · subst z; exact ⟨x, upd_same⟩
    · obtain ⟨u, hu⟩ := R.liv b h1; exact ⟨u, by rw [upd_ne z]; exact hu⟩
/-- no slot comes to stand at an object that was none's -/
theorem Rel.noOwnLater (R : Rel K g F e σ H) {e' : En} {σ' : St} {F' H' : Hp} (R' : Rel K (g.at F H e σ) F' e' σ' H') {a : Addr} {o : HO} (h : H a = some o) (hn : NoOwn e σ a) : NoOwn e' σ' a := by
  intro i s u h1 h2 h3
  cases s with
  | un => cases h2
  | fz d => cases h2
  | ow w =>
    rcases R'.fre i w a h1 h3 with z | ⟨j, v, z1, z2⟩
    · exact absurd (h.symm.trans z) (by intro z; cases z)
    · exact hn j _ v z1 rfl z2
  | io w =>
    obtain ⟨j, v, z1, z2⟩ := R'.ino i w a h1 h3
    exact hn j _ v z1 rfl z2
  | bw w =>
    obtain ⟨p1, t, t1, t2⟩ := R.pin i a (R'.bwp i w a h1 h3)
    cases t with
    | io v => exact hn i _ v t1 rfl p1
    | bw v => exact hn i _ v t1 rfl p1
    | _ => cases t2
/-- slots let go -/
theorem Rel.weak (R : Rel K g F e σ H) {e' : En} {σ' : St} (hl : e'.length = e.length) (hs : σ'.length = σ.length)
    (h : ∀ (i : Nat) (s : Slot) (v : Option V), e'[i]? = some s → σ'[i]? = some v → (s = .un ∧ ∀ a, ¬ g.P i a) ∨ (e[i]? = some s ∧ σ[i]? = some v) ∨ (∃ d x, s = .fz d ∧ v = some x ∧ Rep K F d x ∧ ∀ a, ¬ g.P i a)) : Rel K g F e' σ' H := by
  have own : ∀ (i : Nat) (s : Slot) (o : Ob) (a : Addr), e'[i]? = some s → s.own = some o → σ'[i]? = some (some (.ref a)) → e[i]? = some s ∧ σ[i]? = some (some (.ref a)) := by
    intro i s o a h1 h2 h3
    rcases h i s _ h1 h3 with ⟨rfl, _⟩ | q | ⟨d, x, rfl, _⟩
    · cases h2
    · exact q
    · cases h2
  refine ⟨by rw [hl, hs]; exact R.len, R.sub, ?_, ?_, ?_, ?_, R.old, R.liv, R.fold, R.fnew, ?_, ?_⟩
  · intro i s v h1 h2
    rcases h i s v h1 h2 with ⟨rfl, _⟩ | ⟨q1, q2⟩ | ⟨d, x, rfl, rfl, r, _⟩
    · trivial
    · exact R.slot i s v q1 q2
    · exact ⟨x, rfl, r⟩
  · intro i j s t o u a h1 h2 o1 o2 r1 r2
    obtain ⟨a1, a2⟩ := own i s o a h1 o1 r1
    obtain ⟨b1, b2⟩ := own j t u a h2 o2 r2
    exact R.sep i j s t o u a a1 b1 o1 o2 a2 b2
  · intro i o a h1 h2; obtain ⟨a1, a2⟩ := own i _ o a h1 rfl h2; exact R.fre i o a a1 a2
  · intro i o a h1 h2; obtain ⟨a1, a2⟩ := own i _ o a h1 rfl h2; exact R.ino i o a a1 a2
  · intro i a q
    obtain ⟨p1, s, p2, p3⟩ := R.pin i a q
    have i1 : i < e'.length := by rw [hl]; exact (List.getElem?_eq_some_iff.mp p2).1
    have i2 : i < σ'.length := by rw [hs]; exact (List.getElem?_eq_some_iff.mp p1).1
    rcases h i _ _ (List.getElem?_eq_getElem i1) (List.getElem?_eq_getElem i2) with ⟨_, z⟩ | ⟨q1, q2⟩ | ⟨d, x, _, _, _, z⟩
    · exact absurd q (z a)
    · rw [p2] at q1; rw [p1] at q2
      exact ⟨by rw [List.getElem?_eq_getElem i2, ← q2], s, by rw [List.getElem?_eq_getElem i1, ← q1], p3⟩
    · exact absurd q (z a)
  · intro i o a h1 h2; obtain ⟨a1, a2⟩ := own i _ o a h1 rfl h2; exact R.bwp i o a a1 a2
end
/-! ### 4. results, readings -/
/-- what a result is in the state -/
def RvOk (K : PySem.W.Frag) (g : Gh) (F H : Hp) (e : En) (σ : St) : Rv → V → Prop
  | .v d, x => Rep K F d x
  | .o ob, x => ∃ a, x = .ref a ∧ ObAt K F (H a) ob ∧ F a = none ∧ g.H a = none ∧ NoOwn e σ a
  | .s i, x => σ[i]? = some (some x) ∧ ∃ (s : Slot) (o : Ob), e[i]? = some s ∧ s.own = some o
/-- an operand: it stays one while others are reckoned -/
def OpOk (K : PySem.W.Frag) (F : Hp) (σ : St) : Rv → V → Prop
  | .v d, x => Rep K F d x
  | .o _, _ => False
  | .s i, x => σ[i]? = some (some x)
theorem OpOk.mono {K : PySem.W.Frag} {F F' : Hp} {σ : St} (s : Same F F') : ∀ {r : Rv} {x : V}, OpOk K F σ r x → OpOk K F' σ r x
  | .v _, _, h => Rep.mono s _ _ h
  | .o _, _, h => h
  | .s _, _, h => h
/-- what may be read of a value now -/
def View (K : PySem.W.Frag) (F H : Hp) (d : D) (x : V) : Prop := Rep K F d x ∨ ∃ a o, x = .ref a ∧ d = Ob.val o ∧ ObAt K F (H a) o
theorem view_at {K : PySem.W.Frag} {g : Gh} {F H : Hp} {e : En} {σ : St} (R : Rel K g F e σ H) {i : Nat} {x : V} {d : D} (h : σ[i]? = some (some x)) (hd : viewAt e i = some d) : View K F H d x := by
  unfold viewAt at hd
  split at hd
  · cases hd
    rename_i q
    obtain ⟨v, q1, q2⟩ := R.fzAt q
    rw [h] at q1; cases q1
    exact .inl q2
  · rename_i s z q
    cases ho : s.own with
    | none => rw [ho] at hd; cases hd
    | some o =>
      rw [ho] at hd; cases hd
      obtain ⟨a, q1, q2, _⟩ := R.ownAt q ho
      rw [h] at q1; cases q1
      exact .inr ⟨a, o, rfl, rfl, q2⟩
  · cases hd
theorem OpOk.view {K : PySem.W.Frag} {g : Gh} {F H : Hp} {e : En} {σ : St} (R : Rel K g F e σ H) : ∀ {r : Rv} {x : V} {d : D}, OpOk K F σ r x → r.view e = some d → View K F H d x
  | .v d, x, d', h, hd => by cases hd; exact .inl h
  | .o _, _, _, h, _ => h.elim
  | .s i, x, d, h, hd => view_at R h hd
theorem RvOk.view {K : PySem.W.Frag} {g : Gh} {F H : Hp} {e : En} {σ : St} (R : Rel K g F e σ H) : ∀ {r : Rv} {x : V} {d : D}, RvOk K g F H e σ r x → r.view e = some d → View K F H d x
  | .v d, x, d', h, hd => by cases hd; exact .inl h
  | .o ob, x, d', h, hd => by cases hd; obtain ⟨a, e1, e2, _⟩ := h; exact .inr ⟨a, ob, e1, rfl, e2⟩
  | .s i, x, d, h, hd => view_at R h.1 hd
abbrev NoX : Exc → En → Prop := fun _ _ => False
/-- the reading of an expression -/
def RdE (K : PySem.W.Frag) (m : M Rv) : TE := fun σ H Q => ∃ g F e, Rel K g F e σ H ∧
  (m e).post (fun r e' => ∀ v F' H', Same F F' → Rel K g F' e' σ H' → RvOk K g F' H' e' σ r v → Q v H') NoX
/-- of an operand -/
def RdO (K : PySem.W.Frag) (m : M Rv) : TE := fun σ H Q => ∃ g F e, Rel K g F e σ H ∧
  (m e).post (fun r e' => ∀ v F' H', Same F F' → Rel K g F' e' σ H' → OpOk K F' σ r v → Q v H') NoX
/-- of plain data -/
def RdD (K : PySem.W.Frag) (m : M D) : TE := fun σ H Q => ∃ g F e, Rel K g F e σ H ∧
  (m e).post (fun d e' => ∀ v F' H', Same F F' → Rel K g F' e' σ H' → Rep K F' d v → Q v H') NoX
/-- of a test -/
def RdT (K : PySem.W.Frag) (m : M Bool) : TT := fun σ H Q => ∃ g F e, Rel K g F e σ H ∧
  (m e).post (fun b e' => ∀ F' H', Same F F' → Rel K g F' e' σ H' → Q b H') NoX
inductive Fl where
  | nx | bk | ct | rt (r : Rv)
  deriving Inhabited
/-- how a statement ends -/
def FlOk (K : PySem.W.Frag) (g : Gh) (F : Hp) (D : Ends) : Fl → En → Prop
  | .nx, e' => ∀ (σ' : St) (F' H' : Hp), Same F F' → Rel K g F' e' σ' H' → D.nx σ' H'
  | .bk, e' => ∀ (σ' : St) (F' H' : Hp), Same F F' → Rel K g F' e' σ' H' → D.bk σ' H'
  | .ct, e' => ∀ (σ' : St) (F' H' : Hp), Same F F' → Rel K g F' e' σ' H' → D.ct σ' H'
  | .rt r, e' => ∀ (v : V) (σ' : St) (F' H' : Hp), Same F F' → Rel K g F' e' σ' H' → RvOk K g F' H' e' σ' r v → D.rt v H'
/-- of a statement -/
def RdS (K : PySem.W.Frag) (m : M Fl) : TS := fun D σ H => ∃ g F e, Rel K g F e σ H ∧ (m e).post (FlOk K g F D) NoX
theorem FlOk.mono {K : PySem.W.Frag} {g : Gh} {F F1 : Hp} {D : Ends} {f : Fl} {e' : En} (s1 : Same F F1) (h : FlOk K g F D f e') : FlOk K g F1 D f e' := by
  cases f with
  | nx => exact fun σ' F' H' s R => h σ' F' H' (s1.trans s) R
  | bk => exact fun σ' F' H' s R => h σ' F' H' (s1.trans s) R
  | ct => exact fun σ' F' H' s R => h σ' F' H' (s1.trans s) R
  | rt r => exact fun v σ' F' H' s R => h v σ' F' H' (s1.trans s) R
/-- a temporary is frozen -/
def cOp (m : M Rv) : M Rv := bnd m fun r => match r with
  | .o ob => ret (.v ob.val)
  | r => ret r
/-- plain data: what is owned is frozen -/
def takeRv : Rv → M D
  | .v d => ret d
  | .o ob => ret ob.val
  | .s i => fun e => match e[i]? with
    | some (.fz d) => .ok d e
    | some (.ow o) => .ok o.val (e.set i (.fz o.val))
    | _ => .stuck
def cVal (m : M Rv) : M D := bnd m takeRv
theorem freezeNew {K : PySem.W.Frag} {g : Gh} {F H : Hp} {e : En} {σ : St} (R : Rel K g F e σ H) {ob : Ob} {x : V} (h : RvOk K g F H e σ (.o ob) x) : ∃ F', Same F F' ∧ Rel K g F' e σ H ∧ Rep K F' ob.val x := by
  obtain ⟨a, rfl, h1, h2, h3, h4⟩ := h
  obtain ⟨u, hu⟩ := h1.live
  have s1 : Same F (upd F a u) := fun b w h => by rw [upd_ne]; exact h; intro z; subst z; rw [h2] at h; cases h
  rw [hu] at h1
  exact ⟨upd F a u, s1, R.freeze hu h2 h4 (.inl h3), (h1.mono s1).rep upd_same⟩
theorem rdO {K : PySem.W.Frag} {m : M Rv} {σ : St} {H : Hp} {Q : VK} (h : RdO K (cOp m) σ H Q) : RdE K m σ H Q := by
  obtain ⟨g, F, e, R, h⟩ := h
  refine ⟨g, F, e, R, ?_⟩
  refine Out.post_imp (post_bnd.mp h) ?_ (fun _ _ q => q)
  intro r e' q v F' H' s1 R' ok
  cases r with
  | v d => exact q v F' H' s1 R' ok
  | o ob =>
    obtain ⟨F2, s2, R2, rp⟩ := freezeNew R' ok
    exact q v F2 H' (s1.trans s2) R2 rp
  | s i => exact q v F' H' s1 R' ok.1
theorem rdD {K : PySem.W.Frag} {m : M Rv} {σ : St} {H : Hp} {Q : VK} (h : RdD K (cVal m) σ H Q) : RdE K m σ H Q := by
  obtain ⟨g, F, e, R, h⟩ := h
  refine ⟨g, F, e, R, ?_⟩
  refine Out.post_imp (post_bnd.mp h) ?_ (fun _ _ q => q)
  intro r e' q v F' H' s1 R' ok
  cases r with
  | v d => exact q v F' H' s1 R' ok
  | o ob =>
    obtain ⟨F2, s2, R2, rp⟩ := freezeNew R' ok
    exact q v F2 H' (s1.trans s2) R2 rp
  | s i =>
    obtain ⟨o1, s, o, o2, o3⟩ := ok
    simp only [takeRv] at q
    rw [o2] at q
    cases s with
    | un => cases o3
    | fz d => cases o3
    | ow u =>
      obtain ⟨a, F2, q1, s2, rp, R2⟩ := R'.frz o2
      rw [o1] at q1; cases q1
      exact q _ F2 H' (s1.trans s2) R2 rp
    | io u => exact q.elim
    | bw u => exact q.elim
end PV

namespace PV
open PySem PySem.Spec L2
/-! ### 5. functions as plain functions -/
inductive Arg where
  | fz (d : D) | io (o : Ob) | bw (o : Ob)
def Arg.slot : Arg → Slot
  | .fz d => .fz d
  | .io o => .io o
  | .bw o => .bw o
inductive Rt where
  | v (d : D) | o (ob : Ob)
inductive FO where
  | ok (r : Rt) (outs : List (Option Ob))
  | exc (x : Exc) (outs : List (Option Ob))
  | stuck
abbrev FSem := List Arg → FO
def ArgOk (K : PySem.W.Frag) (F H : Hp) : Arg → V → Prop
  | .fz d, v => Rep K F d v
  | .io o, v => ∃ a, v = .ref a ∧ ObAt K F (H a) o ∧ F a = none
  | .bw o, v => ∃ a, v = .ref a ∧ ObAt K F (H a) o ∧ F a = none
/-- the addresses given to be changed; the own ones -/
def ioAt (args : List Arg) (vs : List V) (a : Addr) : Prop := ∃ (i : Nat) (o : Ob), args[i]? = some (.io o) ∧ vs[i]? = some (.ref a)
def ownAtA (args : List Arg) (vs : List V) (i : Nat) (a : Addr) : Prop := (∃ o : Ob, args[i]? = some (.io o) ∨ args[i]? = some (.bw o)) ∧ vs[i]? = some (.ref a)
structure FPre (K : PySem.W.Frag) (F H : Hp) (args : List Arg) (vs : List V) : Prop where
  len : args.length = vs.length
  sub : Same F H
  ok : ∀ (i : Nat) (p : Arg) (v : V), args[i]? = some p → vs[i]? = some v → ArgOk K F H p v
  sep : ∀ (i j : Nat) (a : Addr), ownAtA args vs i a → ownAtA args vs j a → i = j
structure FPost (K : PySem.W.Frag) (F H : Hp) (args : List Arg) (vs : List V) (F' H' : Hp) (r : Rt) (outs : List (Option Ob)) (v : V) : Prop where
  fold : Same F F'
  sub : Same F' H'
  fnew : ∀ (a : Addr) (o : HO), F' a = some o → F a = some o ∨ H a = none
  old : ∀ (a : Addr) (o : HO), H a = some o → ¬ ioAt args vs a → H' a = some o
  outs : ∀ (i : Nat) (o : Ob) (a : Addr), args[i]? = some (.io o) → vs[i]? = some (.ref a) → ∃ u : Ob, outs[i]? = some (some u) ∧ ObAt K F' (H' a) u ∧ F' a = none
  ret : match r with
    | .v d => Rep K F' d v
    | .o ob => ∃ a, v = .ref a ∧ ObAt K F' (H' a) ob ∧ F' a = none ∧ H a = none
/-- the promise -/
def spF (K : PySem.W.Frag) (sem : FSem) : Sp := fun vs H Q _ => ∃ F args, FPre K F H args vs ∧ match sem args with
  | .ok r outs => ∀ v F' H', FPost K F H args vs F' H' r outs v → Q v H'
  | _ => False
def enter (args : List Arg) (n : Nat) : En := args.map Arg.slot ++ List.replicate n .un
def outsOf : List Arg → En → Option (List (Option Ob))
  | [], _ => some []
  | .io _ :: as, .io o :: e => (outsOf as e).map fun r => some o :: r
  | .fz _ :: as, _ :: e => (outsOf as e).map fun r => none :: r
  | .bw _ :: as, _ :: e => (outsOf as e).map fun r => none :: r
  | _, _ => none
def finish (args : List Arg) (f : Fl) (e : En) : FO := match outsOf args e with
  | none => .stuck
  | some outs => match f with
    | .nx => .ok (.v .non) outs
    | .rt (.v d) => .ok (.v d) outs
    | .rt (.o ob) => .ok (.o ob) outs
    | .rt (.s i) => match e[i]? with
      | some (.ow o) => .ok (.o o) outs
      | some (.fz d) => .ok (.v d) outs
      | _ => .stuck
    | _ => .stuck
def runF (n : Nat) (m : M Fl) : FSem := fun args => match m (enter args n) with
  | .ok f e => finish args f e
  | .exc x e => match outsOf args e with
    | some outs => .exc x outs
    | none => .stuck
  | .stuck => .stuck
theorem outsOf_get : ∀ {args : List Arg} {e : En} {outs : List (Option Ob)} {i : Nat} {o : Ob}, outsOf args e = some outs → args[i]? = some (.io o) → ∃ u : Ob, e[i]? = some (.io u) ∧ outs[i]? = some (some u)
  | [], _, _, _, _, _, h => by simp at h
  | .io o :: as, [], outs, i, u, h, q => by simp [outsOf] at h
  | .fz o :: as, [], outs, i, u, h, q => by simp [outsOf] at h
  | .bw o :: as, [], outs, i, u, h, q => by simp [outsOf] at h
  | .io o :: as, .io w :: e, outs, 0, u, h, q => by
    simp only [outsOf, Option.map_eq_some_iff] at h; obtain ⟨r, h1, rfl⟩ := h; exact ⟨w, rfl, rfl⟩
  | .io o :: as, .io w :: e, outs, i + 1, u, h, q => by
    simp only [outsOf, Option.map_eq_some_iff] at h; obtain ⟨r, h1, rfl⟩ := h; simp at q; obtain ⟨x, a, b⟩ := outsOf_get h1 q; exact ⟨x, by simpa using a, by simpa using b⟩
  | .io o :: as, .un :: e, outs, i, u, h, q => by simp [outsOf] at h
  | .io o :: as, .fz _ :: e, outs, i, u, h, q => by simp [outsOf] at h
  | .io o :: as, .ow _ :: e, outs, i, u, h, q => by simp [outsOf] at h
  | .io o :: as, .bw _ :: e, outs, i, u, h, q => by simp [outsOf] at h
  | .fz d :: as, s :: e, outs, 0, u, h, q => by simp at q
  | .bw d :: as, s :: e, outs, 0, u, h, q => by simp at q
  | .fz d :: as, s :: e, outs, i + 1, u, h, q => by
    simp only [outsOf, Option.map_eq_some_iff] at h; obtain ⟨r, h1, rfl⟩ := h; simp at q; obtain ⟨x, a, b⟩ := outsOf_get h1 q; exact ⟨x, by simpa using a, by simpa using b⟩
  | .bw d :: as, s :: e, outs, i + 1, u, h, q => by
    simp only [outsOf, Option.map_eq_some_iff] at h; obtain ⟨r, h1, rfl⟩ := h; simp at q; obtain ⟨x, a, b⟩ := outsOf_get h1 q; exact ⟨x, by simpa using a, by simpa using b⟩
/-- the entry -/
theorem rel_enter {K : PySem.W.Frag} {F H : Hp} {args : List Arg} {vs : List V} {N : List Str} (p : FPre K F H args vs) (hl : vs.length ≤ N.length) :
    Rel K ⟨H, F, ioAt args vs, fun _ => False, fun i a => ownAtA args vs i a⟩ F (enter args (N.length - vs.length)) (start N vs) H := by
  have ha := p.len
  have slotA : ∀ (i : Nat) (s : Slot) (o : Ob), (enter args (N.length - vs.length))[i]? = some s → s.own = some o → (args[i]? = some (.io o) ∧ s = .io o) ∨ (args[i]? = some (.bw o) ∧ s = .bw o) := by
    intro i s o h ho
    unfold enter at h
    by_cases hi : i < args.length
    · rw [List.getElem?_append_left (by simpa using hi), List.getElem?_map, List.getElem?_eq_getElem hi] at h
      cases h
      rw [List.getElem?_eq_getElem hi]
      cases hq : args[i] with
      | fz d => rw [hq] at ho; cases ho
      | io u => rw [hq] at ho; cases ho; exact .inl ⟨rfl, rfl⟩
      | bw u => rw [hq] at ho; cases ho; exact .inr ⟨rfl, rfl⟩
    · rw [List.getElem?_append_right (by simpa using hi)] at h
      rw [List.getElem?_replicate] at h
      split at h
      · cases h; cases ho
      · cases h
  have stA : ∀ (i : Nat) (v : V), i < args.length → (start N vs)[i]? = some (some v) → vs[i]? = some v := by
    intro i v hi h
    unfold L2.start at h
    rw [List.getElem?_append_left (by simp; omega), List.getElem?_map] at h
    rw [List.getElem?_eq_getElem (by omega)] at h ⊢
    simpa using h
  have ltA : ∀ {i : Nat} {x : Arg}, args[i]? = some x → i < args.length := fun h => (List.getElem?_eq_some_iff.mp h).1
  refine ⟨?_, p.sub, ?_, ?_, ?_, ?_, ?_, ?_, fun _ _ h => h, fun a o h => .inl h, ?_, ?_⟩
  · unfold enter L2.start; simp; omega
  · intro i s v h1 h2
    by_cases hi : i < args.length
    · unfold enter at h1
      rw [List.getElem?_append_left (by simpa using hi), List.getElem?_map, List.getElem?_eq_getElem hi] at h1
      cases h1
      unfold L2.start at h2
      rw [List.getElem?_append_left (by simp; omega), List.getElem?_map, List.getElem?_eq_getElem (by omega)] at h2
      cases h2
      have q := p.ok i args[i] (vs[i]'(by omega)) (List.getElem?_eq_getElem hi) (List.getElem?_eq_getElem (by omega))
      cases hq : args[i] with
      | fz d => rw [hq] at q; exact ⟨_, rfl, q⟩
      | io u => rw [hq] at q; obtain ⟨a, e1, e2, e3⟩ := q; exact ⟨a, by rw [e1], e2, e3⟩
      | bw u => rw [hq] at q; obtain ⟨a, e1, e2, e3⟩ := q; exact ⟨a, by rw [e1], e2, e3⟩
    · unfold enter at h1
      rw [List.getElem?_append_right (by simpa using hi), List.getElem?_replicate] at h1
      split at h1
      · cases h1; trivial
      · cases h1
  · intro i j s t o u a h1 h2 o1 o2 r1 r2
    have f1 : ownAtA args vs i a := by
      rcases slotA i s o h1 o1 with ⟨q, _⟩ | ⟨q, _⟩
      · exact ⟨⟨o, .inl q⟩, stA i _ (ltA q) r1⟩
      · exact ⟨⟨o, .inr q⟩, stA i _ (ltA q) r1⟩
    have f2 : ownAtA args vs j a := by
      rcases slotA j t u h2 o2 with ⟨q, _⟩ | ⟨q, _⟩
      · exact ⟨⟨u, .inl q⟩, stA j _ (ltA q) r2⟩
      · exact ⟨⟨u, .inr q⟩, stA j _ (ltA q) r2⟩
    exact p.sep i j a f1 f2
  · intro i o a h1 r1
    rcases slotA i _ o h1 rfl with ⟨q, z⟩ | ⟨q, z⟩
    · cases z
    · cases z
  · intro i o a h1 r1
    rcases slotA i _ o h1 rfl with ⟨q, z⟩ | ⟨q, z⟩
    · exact ⟨i, o, q, stA i _ (ltA q) r1⟩
    · cases z
  · exact fun a o h _ _ => h
  · rintro a (⟨i, o, q1, q2⟩ | z)
    · obtain ⟨b, e1, e2, _⟩ := p.ok i _ _ q1 q2
      cases e1
      exact e2.live
    · exact z.elim
  · rintro i a ⟨⟨o, q⟩, q2⟩
    have hi : i < args.length := by
      rcases q with q | q <;> exact ltA q
    refine ⟨?_, ?_⟩
    · unfold L2.start
      rw [List.getElem?_append_left (by simp; omega), List.getElem?_map, q2]
      rfl
    · unfold enter
      rw [List.getElem?_append_left (by simpa using hi), List.getElem?_map]
      rcases q with q | q
      · rw [q]; exact ⟨_, rfl, rfl⟩
      · rw [q]; exact ⟨_, rfl, rfl⟩
  · intro i o a h1 r1
    rcases slotA i _ o h1 rfl with ⟨q, z⟩ | ⟨q, z⟩
    · cases z
    · exact ⟨⟨o, .inr q⟩, stA i _ (ltA q) r1⟩
/-- the way out -/
theorem run_body {K : PySem.W.Frag} {H : Hp} {vs : List V} {N : List Str} {Q : VK} {E : XK} {m : M Fl} {k : Nat} (hl : vs.length ≤ N.length) (hk : k = N.length - vs.length) (h : spF K (runF k m) vs H Q E) :
    RdS K m { nx := fun _ H' => Q .non H', rt := Q } (start N vs) H := by
  subst hk
  obtain ⟨F, args, p, h⟩ := h
  refine ⟨_, F, _, rel_enter p hl, ?_⟩
  unfold runF at h
  cases hm : m (enter args (N.length - vs.length)) with
  | stuck => rw [hm] at h; exact h.elim
  | exc x e => rw [hm] at h; simp only at h; cases ho : outsOf args e <;> rw [ho] at h <;> exact h.elim
  | ok f e =>
    rw [hm] at h
    simp only at h
    unfold finish at h
    cases ho : outsOf args e with
    | none => rw [ho] at h; exact h.elim
    | some outs =>
      rw [ho] at h
      simp only at h
      have post : ∀ (v : V) (σ' : St) (F' H' : Hp) (r : Rt), Same F F' → Rel K ⟨H, F, ioAt args vs, fun _ => False, fun i a => ownAtA args vs i a⟩ F' e σ' H' → (match r with
          | .v d => Rep K F' d v
          | .o ob => ∃ a, v = .ref a ∧ ObAt K F' (H' a) ob ∧ F' a = none ∧ H a = none) → FPost K F H args vs F' H' r outs v := by
        intro v σ' F' H' r s R hr
        refine ⟨s, R.sub, fun a o h => (R.fnew a o h).imp id fun z => z.elim id False.elim, fun a o h1 h2 => R.old a o h1 h2 id, ?_, hr⟩
        intro i o a q1 q2
        obtain ⟨u, u1, u2⟩ := outsOf_get ho q1
        obtain ⟨p1, _⟩ := R.pin i a ⟨⟨o, .inl q1⟩, q2⟩
        obtain ⟨b, b1, b2, b3⟩ := R.ownAt u1 rfl
        rw [p1] at b1; cases b1
        exact ⟨u, u2, b2, b3⟩
      cases f with
      | bk => exact h.elim
      | ct => exact h.elim
      | nx => exact fun σ' F' H' s R => h .non F' H' (post .non _ _ _ (.v .non) s R (show Rep K F' .non .non by rw [Rep]))
      | rt r =>
        intro v σ' F' H' s R ok
        cases r with
        | v d => exact h v F' H' (post _ _ _ _ (.v d) s R ok)
        | o ob => obtain ⟨a, e1, e2, e3, e4, _⟩ := ok; exact h v F' H' (post _ _ _ _ (.o ob) s R ⟨a, e1, e2, e3, e4⟩)
        | s i =>
          obtain ⟨o1, t, o, o2, o3⟩ := ok
          simp only at h
          rw [o2] at h
          cases t with
          | un => exact h.elim
          | fz d => cases o3
          | io u => exact h.elim
          | bw u => exact h.elim
          | ow u =>
            obtain ⟨a, a1, a2, a3⟩ := R.ownAt o2 rfl
            have hg := (R.fre i u a o2 a1).elim id False.elim
            rw [o1] at a1; cases a1
            exact h _ F' H' (post _ _ _ _ (.o u) s R ⟨a, rfl, a2, a3, hg⟩)
/-! ### 6. contexts -/
inductive PM where
  | val | io | bw
structure Prg where
  names : List Str
  cons : List (Str × D)
  blt : List Str
/-- a scope: its names by slot, which of them it sees, which it may store, the global names that it reads -/
structure Cxt where
  N : List Str
  sc : Scope
  vs : List Bool
  st : List Bool
  gl : List Str
def visB (sc : Scope) (x : Str) : Bool := match sc.names.lookup x with
  | some .local => true
  | some .cell => true
  | some .free => true
  | _ => false
def locB (sc : Scope) (x : Str) : Bool := match sc.names.lookup x with
  | some .local => true
  | some .cell => true
  | _ => false
def okName (x : Str) : Bool := !(x == ("__debug__" : Str)) && !(x == ("__classdict__" : Str)) && !(x == ("__name__" : Str))
def flagged (p : Str → Bool) : List Str → List Bool → Bool
  | _, [] => true
  | [], _ :: _ => false
  | x :: xs, b :: bs => (!b || p x) && flagged p xs bs
theorem flagged_get {p : Str → Bool} : ∀ {xs : List Str} {bs : List Bool} {i : Nat} {x : Str}, flagged p xs bs = true → xs[i]? = some x → bs[i]? = some true → p x = true
  | [], [], _, _, _, h, _ => by simp at h
  | x :: xs, [], _, _, _, _, h => by simp at h
  | [], b :: bs, _, _, h, _, _ => by simp [flagged] at h
  | x :: xs, b :: bs, 0, y, h, h1, h2 => by simp at h1 h2; subst h1; subst h2; simp [flagged] at h; exact h.1
  | x :: xs, b :: bs, i + 1, y, h, h1, h2 => by simp [flagged] at h; exact flagged_get h.2 (by simpa using h1) (by simpa using h2)
def Cxt.chk (C : Cxt) : Bool := decide C.N.Nodup && flagged (fun x => visB C.sc x && okName x) C.N C.vs && C.gl.all fun x => (match C.sc.names.lookup x with | some .globalImplicit => true | _ => false) && okName x
structure FnX (X : Cx) (x : Str) (sem : FSem) : Prop where
  ex : ∃ k f fd ps, FnOk X.prog X.w X.K X.mg X.base CX0 k f fd ps (spF X.K sem) ∧ Room k X.A ∧ X.mg x = some (.ref f) ∧ PySem.W.keepIn X.K (.ref f) = true ∧ Binds X.K fd ps []
structure XOk (G : Prg) (call : Nat → FSem) (C : Cxt) (X : Cx) : Prop where
  N : X.N = C.N
  sc : X.env.scope = C.sc
  calm : X.calm = true
  chk : C.chk = true
  stor : ∀ (i : Nat) (x : Str), C.N[i]? = some x → C.st[i]? = some true → Loc X.env.scope x ∧ (X.fn x = true ∨ X.env.scope.names.lookup x = some .local)
  pass : PassesOwn (model X.prog X.w) X.A X.env X.xe
  room : Room 0 X.A
  fns : ∀ (i : Nat) (x : Str), G.names[i]? = some x → FnX X x (call i)
  cons : ∀ (i : Nat) (x : Str) (d : D), G.cons[i]? = some (x, d) → ∃ u v, X.mg x = some u ∧ RelV v u ∧ ∀ F, Rep X.K F d v
  blt : ∀ (i : Nat) (x : Str), G.blt[i]? = some x → X.mg x = none
section
variable {G : Prg} {call : Nat → FSem} {C : Cxt} {X : Cx}
theorem XOk.nd (h : XOk G call C X) : X.N.Nodup := by
  have := h.chk; rw [Cxt.chk] at this; simp only [Bool.and_eq_true] at this; rw [h.N]; exact of_decide_eq_true this.1.1
theorem XOk.vis (h : XOk G call C X) {i : Nat} {x : Str} (h1 : C.N[i]? = some x) (h2 : C.vs[i]? = some true) : Vis X.env.scope x ∧ okName x = true := by
  have := h.chk; rw [Cxt.chk] at this; simp only [Bool.and_eq_true] at this
  have q := flagged_get this.1.2 h1 h2
  simp only [Bool.and_eq_true] at q
  refine ⟨?_, q.2⟩
  have q := q.1
  rw [h.sc]
  unfold visB at q
  unfold Vis
  split at q
  · exact .inl (by assumption)
  · exact .inr (.inl (by assumption))
  · exact .inr (.inr (by assumption))
  · cases q
theorem XOk.gl (h : XOk G call C X) {j : Nat} {x : Str} (h1 : C.gl[j]? = some x) : Gl X x ∧ okName x = true := by
  have := h.chk; rw [Cxt.chk] at this; simp only [Bool.and_eq_true] at this
  have q := List.all_eq_true.mp this.2 x (List.mem_of_getElem? h1)
  simp only [Bool.and_eq_true] at q
  refine ⟨?_, q.2⟩
  have q := q.1
  show X.env.scope.names.lookup x = _
  rw [h.sc]
  split at q
  · assumption
  · cases q
theorem okName_debug {x : Str} (h : okName x = true) : (x == ("__debug__" : Str)) = false := by
  unfold okName at h; simp only [Bool.and_eq_true, Bool.not_eq_true'] at h; exact h.1.1
theorem okName_classdict {x : Str} (h : okName x = true) : (x == ("__classdict__" : Str)) = false := by
  unfold okName at h; simp only [Bool.and_eq_true, Bool.not_eq_true'] at h; exact h.1.2
theorem okName_name {x : Str} (h : okName x = true) : x ≠ ("__name__" : Str) := by
  unfold okName at h; simp only [Bool.and_eq_true, Bool.not_eq_true'] at h; intro z; subst z; simp at h
end
/-- the judgements over plain data -/
def SE (G : Prg) (call : Nat → FSem) (C : Cxt) (e : Expr) (m : M Rv) : Prop := ∀ X, XOk G call C X → PE X e (RdE X.K m)
def ST (G : Prg) (call : Nat → FSem) (C : Cxt) (e : Expr) (m : M Bool) : Prop := ∀ X, XOk G call C X → PT X e (RdT X.K m)
def SW (G : Prg) (call : Nat → FSem) (C : Cxt) (e : Expr) (m : M Bool) : Prop := ∀ X, XOk G call C X → PW X e (RdT X.K m)
def SS (G : Prg) (call : Nat → FSem) (C : Cxt) (s : Stmt) (m : M Fl) : Prop := ∀ X, XOk G call C X → PS X s (RdS X.K m)
def SSs (G : Prg) (call : Nat → FSem) (C : Cxt) (s : List Stmt) (m : M Fl) : Prop := ∀ X, XOk G call C X → PSs X s (RdS X.K m)
theorem pe_mono {X : Cx} {e : Expr} {t t' : TE} (h : PE X e t) (k : ∀ σ H Q, t' σ H Q → t σ H Q) : PE X e t' := ⟨fun pins s σ H Q I q => h.run pins s σ H Q I (k σ H Q q)⟩
theorem pt_mono {X : Cx} {e : Expr} {t t' : TT} (h : PT X e t) (k : ∀ σ H Q, t' σ H Q → t σ H Q) : PT X e t' := ⟨fun pins s σ H Q I q => h.run pins s σ H Q I (k σ H Q q)⟩
theorem pw_mono {X : Cx} {e : Expr} {t t' : TT} (h : PW X e t) (k : ∀ σ H Q, t' σ H Q → t σ H Q) : PW X e t' := ⟨fun w pins s σ H Q I q => h.run w pins s σ H Q I (k σ H Q q)⟩
theorem pa_mono {X : Cx} {e : List Expr} {t t' : TA} (h : PA X e t) (k : ∀ σ H Q, t' σ H Q → t σ H Q) : PA X e t' := ⟨fun pos pins s σ H Q I q => h.run pos pins s σ H Q I (k σ H Q q)⟩
theorem ps_mono {X : Cx} {e : Stmt} {t t' : TS} (h : PS X e t) (k : ∀ D σ H, t' D σ H → t D σ H) : PS X e t' := ⟨fun pins s σ H D I q => h.run pins s σ H D I (k D σ H q)⟩
theorem pss_mono {X : Cx} {e : List Stmt} {t t' : TS} (h : PSs X e t) (k : ∀ D σ H, t' D σ H → t D σ H) : PSs X e t' := ⟨fun pins s σ H D I q => h.run pins s σ H D I (k D σ H q)⟩
/-- THE RULE for a def -/
theorem fn_ok {G : Prg} {call : Nat → FSem} {C : Cxt} {P : Program} {w : World} {K : PySem.W.Frag} {mg : Str → Option Value} {base : Heap} {x qual : Str} {st : Stmt} {f : Addr} {fd : FuncData} {ps : List Str} {k n : Nat} {m : M Fl}
    (F : Fun K x qual st f fd) (S : FnScope C.N ps (defScope st)) (hsc : C.sc = defScope st) (hchk : C.chk = true) (hst : flagged (fun y => locB (defScope st) y) C.N C.st = true) (hb : SSs G call C (defBody st) m) (hn : n = C.N.length - ps.length)
    (hfns : ∀ (i : Nat) (y : Str), G.names[i]? = some y → ∃ f' fd' ps', FnOk P w K mg base CX0 k f' fd' ps' (spF K (call i)) ∧ mg y = some (.ref f') ∧ PySem.W.keepIn K (.ref f') = true ∧ Binds K fd' ps' [])
    (hcons : ∀ (i : Nat) (y : Str) (d : D), G.cons[i]? = some (y, d) → ∃ u v, mg y = some u ∧ RelV v u ∧ ∀ F, Rep K F d v) (hblt : ∀ (i : Nat) (y : Str), G.blt[i]? = some y → mg y = none)
    (hlen : ∀ args, (∃ r outs, runF n m args = .ok r outs) → args.length = ps.length) :
    FnOk P w K mg base CX0 (k + 1) f fd ps (spF K (runF n m)) := by
  have len : ∀ (vs : List V) (H : Hp) (Q : VK) (E : XK), spF K (runF n m) vs H Q E → vs.length = ps.length := by
    rintro vs H Q E ⟨F0, args, p, h⟩
    rw [← p.len]
    cases hr : runF n m args with
    | ok r outs => exact hlen args ⟨r, outs, hr⟩
    | exc x o => rw [hr] at h; exact h.elim
    | stuck => rw [hr] at h; exact h.elim
  have hle : ps.length ≤ C.N.length := by
    have := congrArg List.length S.pre
    rw [List.length_take] at this
    omega
  refine F.ok S len fun cdv A outer s H vs Q E hr h => ?_
  have hv := len vs H Q E h
  refine ⟨RdS K m, hb _ ?_, run_body (by omega) (by rw [hv]; exact hn) h⟩
  refine ⟨rfl, hsc.symm, rfl, hchk, ?_, PassesOwn.never, hr.mono (by omega), ?_, hcons, hblt⟩
  · intro i y h1 h2
    have q := flagged_get hst h1 h2
    refine ⟨?_, .inl rfl⟩
    unfold locB at q
    split at q
    · exact .inl (by assumption)
    · exact .inr (by assumption)
    · cases q
  · intro i y h1
    obtain ⟨f', fd', ps', a, b, c, d⟩ := hfns i y h1
    exact ⟨k, f', fd', ps', a, hr, b, c, d⟩
end PV

namespace PV
open PySem PySem.Spec L2
/-! ### 7. results by values -/
/-- no result; a value; a new tuple; a new object -/
inductive SR where
  | no | d (d : D) | nt (ds : List D) | ob (o : Ob)
def cSR : SR → M Rv
  | .no => fail
  | .d x => ret (.v x)
  | .nt ds => ret (.v (.tup ds))
  | .ob o => ret (.o o)
def SRok (K : PySem.W.Frag) (F H : Hp) (Q : VK) : SR → Prop
  | .no => False
  | .d x => ∀ v, Rep K F x v → Q v H
  | .nt ds => (∀ v, Rep K F (.tup ds) v → Q v H) ∧ ∀ vs, Reps K F ds vs → NewT H Q vs
  | .ob o => ∀ p h, H p = none → ObAt K F (some h) o → Q (.ref p) (upd H p h)
section
variable {K : PySem.W.Frag} {g : Gh} {F H : Hp} {e : En} {σ : St}
theorem Rel.noOwn (R : Rel K g F e σ H) {p : Addr} (hp : H p = none) : NoOwn e σ p := by
  intro i s o h ho hs
  obtain ⟨a, h1, h2, _⟩ := R.ownAt h ho
  rw [hs] at h1; cases h1
  obtain ⟨u, hu⟩ := h2.live
  rw [hp] at hu; cases hu
theorem SRok.of {Q : VK} {r : SR} (R : Rel K g F e σ H) (h : (cSR r e).post (fun rv e' => ∀ v F' H', Same F F' → Rel K g F' e' σ H' → RvOk K g F' H' e' σ rv v → Q v H') NoX) : SRok K F H Q r := by
  cases r with
  | no => exact h
  | d x => exact fun v hv => h v F H (Same.refl F) R hv
  | nt ds =>
    refine ⟨fun v hv => h v F H (Same.refl F) R hv, ?_⟩
    intro vs hr p ob hp hcl hdi
    have hF := R.freshF hp
    have s1 : Same F (upd F p (.frz ob (.tup vs))) := fun b w q => by rw [upd_ne]; exact q; intro z; subst z; rw [hF] at q; cases q
    have R1 := (R.alloc (.frz ob (.tup vs)) hp).freeze upd_same hF (R.noOwn hp) (.inl (R.fresh hp))
    refine h (.ref p) _ _ s1 R1 ?_
    show Rep K _ (.tup ds) (.ref p)
    rw [Rep]
    exact ⟨p, vs, rfl, .inl ⟨ob, upd_same, hcl, hdi⟩, hr.mono s1⟩
  | ob o =>
    intro p x hp ho
    have hF := R.freshF hp
    refine h (.ref p) F _ (Same.refl F) (R.alloc x hp) ?_
    exact ⟨p, rfl, by rw [upd_same]; exact ho, hF, R.fresh hp, R.noOwn hp⟩
end
def c1 (f : D → SR) (m : M Rv) : M Rv := bnd m fun r e => match r.view e with
  | some d => cSR (f d) e
  | none => .stuck
def c2 (f : D → D → SR) (ma mb : M Rv) : M Rv := bnd (cOp ma) fun a => bnd (cOp mb) fun b e => match a.view e, b.view e with
  | some x, some y => cSR (f x y) e
  | _, _ => .stuck
theorem rd1 {K : PySem.W.Frag} {m : M Rv} {f : D → SR} {r : V → Hp → VK → Prop} {σ : St} {H : Hp} {Q : VK} (hf : ∀ F H d x Q, Same F H → View K F H d x → SRok K F H Q (f d) → r x H Q) (h : RdE K (c1 f m) σ H Q) :
    RdE K m σ H (fun x H1 => r x H1 Q) := by
  obtain ⟨g, F, e, R, h⟩ := h
  refine ⟨g, F, e, R, Out.post_imp (post_bnd.mp h) ?_ (fun _ _ q => q)⟩
  intro rv e' q v F' H' s1 R1 ok
  cases hv : rv.view e' with
  | none => rw [hv] at q; exact q.elim
  | some d =>
    rw [hv] at q
    refine hf F' H' d v Q R1.sub (ok.view R1 hv) (SRok.of R1 ?_)
    exact Out.post_imp q (fun a e2 q2 v2 F2 H2 s2 => q2 v2 F2 H2 (s1.trans s2)) (fun _ _ q => q)
/-- an operand's reading, then what follows -/
theorem rdO_bnd {K : PySem.W.Frag} {α : Type} {m : M Rv} {f : Rv → M α} {g : Gh} {F : Hp} {e : En} {σ : St} {H : Hp} {P : α → En → Prop} {T : VK} (R : Rel K g F e σ H) (h : (bnd (cOp m) f e).post P NoX)
    (k : ∀ rv e' v F' H', Same F F' → Rel K g F' e' σ H' → OpOk K F' σ rv v → (f rv e').post P NoX → T v H') : RdE K m σ H T := by
  refine rdO ⟨g, F, e, R, Out.post_imp (post_bnd.mp h) ?_ (fun _ _ q => q)⟩
  intro rv e' q v F' H' s1 R1 ok
  exact k rv e' v F' H' s1 R1 ok q
theorem rd2 {K : PySem.W.Frag} {ma mb : M Rv} {f : D → D → SR} {r : R2} {σ : St} {H : Hp} {Q : VK} (hf : ∀ F H d d' x y Q, Same F H → View K F H d x → View K F H d' y → SRok K F H Q (f d d') → r x y H Q) (h : RdE K (c2 f ma mb) σ H Q) :
    RdE K ma σ H (fun x H1 => RdE K mb σ H1 fun y H2 => r x y H2 Q) := by
  obtain ⟨g, F, e, R, h⟩ := h
  refine rdO_bnd R h fun rv e1 v F1 H1 s1 R1 ok1 h1 => ?_
  refine rdO_bnd R1 h1 fun rw e2 u F2 H2 s2 R2 ok2 h2 => ?_
  cases hv : rv.view e2 with
  | none => rw [hv] at h2; exact h2.elim
  | some d =>
    cases hw : rw.view e2 with
    | none => rw [hv, hw] at h2; exact h2.elim
    | some d' =>
      rw [hv, hw] at h2
      refine hf F2 H2 d d' v u Q R2.sub ((ok1.mono s2).view R2 hv) (ok2.view R2 hw) (SRok.of R2 ?_)
      exact Out.post_imp h2 (fun a e3 q2 v2 F3 H3 s3 => q2 v2 F3 H3 ((s1.trans s2).trans s3)) (fun _ _ q => q)
/-! ### arguments -/
inductive AV where
  | d (d : D) | s (i : Nat) | io (i : Nat)
def AV.view (e : En) : AV → Option D
  | .d x => some x
  | .s i => viewAt e i
  | .io i => viewAt e i
def AvOk (K : PySem.W.Frag) (F : Hp) (σ : St) : AV → V → Prop
  | .d d, x => Rep K F d x
  | .s i, x => σ[i]? = some (some x)
  | .io i, x => σ[i]? = some (some x)
def AvsOk (K : PySem.W.Frag) (F : Hp) (σ : St) : List AV → List V → Prop
  | [], vs => vs = []
  | a :: as, vs => ∃ v r, vs = v :: r ∧ AvOk K F σ a v ∧ AvsOk K F σ as r
theorem AvOk.mono {K : PySem.W.Frag} {F F' : Hp} {σ : St} (s : Same F F') : ∀ {r : AV} {x : V}, AvOk K F σ r x → AvOk K F' σ r x
  | .d _, _, h => Rep.mono s _ _ h
  | .s _, _, h => h
  | .io _, _, h => h
def cArg : PM → M Rv → M AV
  | .val, m => bnd (cVal m) fun d => ret (.d d)
  | .bw, m => bnd (cOp m) fun r => match r with
    | .v d => ret (.d d)
    | .s i => ret (.s i)
    | .o ob => ret (.d ob.val)
  | .io, m => bnd (cOp m) fun r => match r with
    | .v d => ret (.d d)
    | .s i => ret (.io i)
    | .o ob => ret (.d ob.val)
def seqM {α : Type} : List (M α) → M (List α)
  | [] => ret []
  | m :: ms => bnd m fun a => bnd (seqM ms) fun as => ret (a :: as)
def RdAV (K : PySem.W.Frag) (m : M AV) : TE := fun σ H Q => ∃ g F e, Rel K g F e σ H ∧
  (m e).post (fun r e' => ∀ v F' H', Same F F' → Rel K g F' e' σ H' → AvOk K F' σ r v → Q v H') NoX
def RdA (K : PySem.W.Frag) (m : List (M AV)) : TA := fun σ H Q => ∃ g F e, Rel K g F e σ H ∧
  (seqM m e).post (fun r e' => ∀ v F' H', Same F F' → Rel K g F' e' σ H' → AvsOk K F' σ r v → Q v H') NoX
theorem rdAV {K : PySem.W.Frag} {p : PM} {m : M Rv} {σ : St} {H : Hp} {Q : VK} (h : RdAV K (cArg p m) σ H Q) : RdE K m σ H Q := by
  obtain ⟨g, F, e, R, h⟩ := h
  cases p with
  | val =>
    refine rdD ⟨g, F, e, R, Out.post_imp (post_bnd.mp h) ?_ (fun _ _ q => q)⟩
    intro d e' q v F' H' s1 R1 ok
    exact q v F' H' s1 R1 ok
  | bw =>
    refine rdO ⟨g, F, e, R, Out.post_imp (post_bnd.mp h) ?_ (fun _ _ q => q)⟩
    intro r e' q v F' H' s1 R1 ok
    cases r with
    | v d => exact q v F' H' s1 R1 ok
    | s i => exact q v F' H' s1 R1 ok
    | o ob => exact ok.elim
  | io =>
    refine rdO ⟨g, F, e, R, Out.post_imp (post_bnd.mp h) ?_ (fun _ _ q => q)⟩
    intro r e' q v F' H' s1 R1 ok
    cases r with
    | v d => exact q v F' H' s1 R1 ok
    | s i => exact q v F' H' s1 R1 ok
    | o ob => exact ok.elim
def SA (G : Prg) (call : Nat → FSem) (C : Cxt) (es : List Expr) (ms : List (M AV)) : Prop := ∀ X, XOk G call C X → PA X es (RdA X.K ms)
section
variable {G : Prg} {call : Nat → FSem} {C : Cxt}
theorem SA.nil : SA G call C [] [] := fun X ok => pa_mono pa_nil fun σ H Q h => by
  obtain ⟨g, F, e, R, h⟩ := h
  exact h [] F H (Same.refl F) R (by rw [AvsOk])
theorem SA.cons (p : PM) {e : Expr} {es : List Expr} {m : M Rv} {ms : List (M AV)} (h1 : SE G call C e m) (h2 : SA G call C es ms) (hs : ∀ env, starEach (e :: es) env = (false, eval e env) :: starEach es env := by intro _; rfl) :
    SA G call C (e :: es) (cArg p m :: ms) := fun X ok => pa_mono (pa_cons (h1 X ok) (h2 X ok) (hs _)) fun σ H Q h => by
  obtain ⟨g, F, en, R, h⟩ := h
  refine rdAV (p := p) ⟨g, F, en, R, Out.post_imp (post_bnd.mp h) ?_ (fun _ _ q => q)⟩
  intro av e1 q v F1 H1 s1 R1 ok1
  refine ⟨g, F1, e1, R1, Out.post_imp (post_bnd.mp q) ?_ (fun _ _ q => q)⟩
  intro avs e2 q2 vs F2 H2 s2 R2 ok2
  exact q2 (v :: vs) F2 H2 (s1.trans s2) R2 ⟨v, vs, rfl, ok1.mono s2, ok2⟩
end
def viewsOf (e : En) : List AV → Option (List D)
  | [] => some []
  | a :: as => match a.view e, viewsOf e as with
    | some d, some ds => some (d :: ds)
    | _, _ => none
def Views (K : PySem.W.Frag) (F H : Hp) : List D → List V → Prop
  | [], vs => vs = []
  | d :: ds, vs => ∃ v r, vs = v :: r ∧ View K F H d v ∧ Views K F H ds r
theorem views_of {K : PySem.W.Frag} {g : Gh} {F H : Hp} {e : En} {σ : St} (R : Rel K g F e σ H) : ∀ {as : List AV} {vs : List V} {ds : List D}, AvsOk K F σ as vs → viewsOf e as = some ds → Views K F H ds vs
  | [], vs, ds, h, q => by simp only [viewsOf, Option.some.injEq] at q; subst q; exact h
  | a :: as, vs, ds, h, q => by
    obtain ⟨v, r, rfl, h1, h2⟩ := h
    unfold viewsOf at q
    cases ha : a.view e with
    | none => rw [ha] at q; cases q
    | some d =>
      cases hs : viewsOf e as with
      | none => rw [ha, hs] at q; cases q
      | some dd =>
        rw [ha, hs] at q
        cases q
        refine ⟨v, r, rfl, ?_, views_of R h2 hs⟩
        cases a with
        | d x => cases ha; exact .inl h1
        | s i => exact view_at R h1 ha
        | io i => exact view_at R h1 ha
def cN (f : List D → SR) (ms : List (M AV)) : M Rv := bnd (seqM ms) fun as e => match viewsOf e as with
  | some ds => cSR (f ds) e
  | none => .stuck
theorem rdN {K : PySem.W.Frag} {ms : List (M AV)} {f : List D → SR} {r : List V → Hp → VK → Prop} {σ : St} {H : Hp} {Q : VK} (hf : ∀ F H ds vs Q, Same F H → Views K F H ds vs → SRok K F H Q (f ds) → r vs H Q) (h : RdE K (cN f ms) σ H Q) :
    RdA K ms σ H (fun vs H1 => r vs H1 Q) := by
  obtain ⟨g, F, e, R, h⟩ := h
  refine ⟨g, F, e, R, Out.post_imp (post_bnd.mp h) ?_ (fun _ _ q => q)⟩
  intro as e' q vs F' H' s1 R1 ok
  cases hv : viewsOf e' as with
  | none => simp only [hv] at q; exact q.elim
  | some ds =>
    simp only [hv] at q
    refine hf F' H' ds vs Q R1.sub (views_of R1 ok hv) (SRok.of R1 ?_)
    exact Out.post_imp q (fun a e2 q2 v2 F2 H2 s2 => q2 v2 F2 H2 (s1.trans s2)) (fun _ _ q => q)
/-! ### what views tell -/
section
variable {K : PySem.W.Frag} {F H : Hp}
theorem View.int {i : Int} {x : V} (h : View K F H (.int i) x) : x = .int i := by
  rcases h with h | ⟨a, o, e, q, _⟩
  · rw [Rep] at h; exact h
  · cases o <;> cases q
theorem View.bl {i : Bool} {x : V} (h : View K F H (.bl i) x) : x = .bl i := by
  rcases h with h | ⟨a, o, e, q, _⟩
  · rw [Rep] at h; exact h
  · cases o <;> cases q
theorem View.non {x : V} (h : View K F H .non x) : x = .non := by
  rcases h with h | ⟨a, o, e, q, _⟩
  · rw [Rep] at h; exact h
  · cases o <;> cases q
theorem View.str {i : Str} {x : V} (h : View K F H (.str i) x) : x = .str i := by
  rcases h with h | ⟨a, o, e, q, _⟩
  · rw [Rep] at h; exact h
  · cases o <;> cases q
theorem View.ty {i : String} {x : V} (h : View K F H (.ty i) x) : x = .ty i := by
  rcases h with h | ⟨a, o, e, q, _⟩
  · rw [Rep] at h; exact h
  · cases o <;> cases q
theorem View.tup {ds : List D} {x : V} (s : Same F H) (h : View K F H (.tup ds) x) : ∃ a vs, x = .ref a ∧ PlT K F a vs ∧ SqT K H a vs ∧ Reps K F ds vs := by
  rcases h with h | ⟨a, o, e, q, _⟩
  · rw [Rep] at h; obtain ⟨a, vs, e, q, r⟩ := h; exact ⟨a, vs, e, q, sqT_mono s q.sq, r⟩
  · cases o <;> cases q
theorem View.pr {ds : List D} {x : V} (s : Same F H) (h : View K F H (.pr ds) x) : ∃ a vs, x = .ref a ∧ SqT K H a vs ∧ Reps K F ds vs := by
  rcases h with h | ⟨a, o, e, q, _⟩
  · rw [Rep] at h; obtain ⟨a, vs, e, q, r⟩ := h; exact ⟨a, vs, e, sqT_mono s q, r⟩
  · cases o <;> cases q
theorem View.tupRep {ds : List D} {x : V} (h : View K F H (.tup ds) x) : Rep K F (.tup ds) x := by
  rcases h with h | ⟨a, o, e, q, _⟩
  · exact h
  · cases o <;> cases q
theorem View.lst {ds : List D} {x : V} (s : Same F H) (h : View K F H (.lst ds) x) : ∃ a vs, x = .ref a ∧ H a = some (.lst vs) ∧ Reps K F ds vs := by
  rcases h with h | ⟨a, o, e, q, r⟩
  · rw [Rep] at h; obtain ⟨a, vs, e, q, r⟩ := h; exact ⟨a, vs, e, s _ _ q, r⟩
  · cases o <;> cases q
    obtain ⟨vs, r1, r2⟩ := r
    exact ⟨a, vs, e, r1, r2⟩
theorem View.scr {ds : List D} {x : V} (s : Same F H) (h : View K F H (.scr ds) x) : ∃ a vs, x = .ref a ∧ SqL K H a vs ∧ Reps K F ds vs := by
  rcases h with h | ⟨a, o, e, q, r⟩
  · rw [Rep] at h; obtain ⟨a, vs, e, q, r⟩ := h; exact ⟨a, vs, e, sqL_mono s q, r⟩
  · cases o <;> cases q
theorem View.dic {ds : List (Key × D)} {x : V} (s : Same F H) (h : View K F H (.dic ds) x) : ∃ a vs, x = .ref a ∧ H a = some (.dK vs) ∧ RepsK K F ds vs := by
  rcases h with h | ⟨a, o, e, q, r⟩
  · rw [Rep] at h; obtain ⟨a, vs, e, q, r⟩ := h; exact ⟨a, vs, e, s _ _ q, r⟩
  · cases o <;> cases q
    obtain ⟨vs, r1, r2⟩ := r
    exact ⟨a, vs, e, r1, r2⟩
theorem View.dit {ds : List (List Key × D)} {x : V} (s : Same F H) (h : View K F H (.dit ds) x) : ∃ a vs, x = .ref a ∧ H a = some (.dT vs) ∧ RepsT K F ds vs := by
  rcases h with h | ⟨a, o, e, q, r⟩
  · rw [Rep] at h; obtain ⟨a, vs, e, q, r⟩ := h; exact ⟨a, vs, e, s _ _ q, r⟩
  · cases o <;> cases q
    obtain ⟨vs, r1, r2⟩ := r
    exact ⟨a, vs, e, r1, r2⟩
/-- over the heap as a whole -/
theorem View.rep {d : D} {x : V} (s : Same F H) (h : View K F H d x) : Rep K H d x := by
  rcases h with h | ⟨a, o, rfl, rfl, r⟩
  · exact h.mono s
  · obtain ⟨u, hu⟩ := r.live
    rw [hu] at r
    exact (r.mono s).rep hu
end
/-! ### names, constants -/
def cVar (i : Nat) : M Rv := fun e => match e[i]? with
  | some (.fz d) => .ok (.v d) e
  | some (.ow _) => .ok (.s i) e
  | some (.io _) => .ok (.s i) e
  | some (.bw _) => .ok (.s i) e
  | _ => .stuck
def cK (d : D) : M Rv := ret (.v d)
section
variable {G : Prg} {call : Nat → FSem} {C : Cxt}
theorem SE.var {i : Nat} {x : Str} {pos : Pos} (hN : C.N[i]? = some x) (hv : C.vs[i]? = some true) : SE G call C (.Name x pos) (cVar i) := fun X ok => by
  obtain ⟨v1, v2⟩ := ok.vis hN hv
  refine pe_mono (pe_var (i := i) (by rw [ok.N]; exact hN) v1 (okName_debug v2) (okName_classdict v2)) fun σ H Q h => ?_
  obtain ⟨g, F, e, R, h⟩ := h
  unfold cVar at h
  cases he : e[i]? with
  | none => rw [he] at h; exact h.elim
  | some s =>
    rw [he] at h
    cases s with
    | un => exact h.elim
    | fz d => obtain ⟨v, q1, q2⟩ := R.fzAt he; exact ⟨v, q1, h v F H (Same.refl F) R q2⟩
    | ow o => obtain ⟨a, q1, q2, q3⟩ := R.ownAt he rfl; exact ⟨_, q1, h _ F H (Same.refl F) R ⟨q1, _, o, he, rfl⟩⟩
    | io o => obtain ⟨a, q1, q2, q3⟩ := R.ownAt he rfl; exact ⟨_, q1, h _ F H (Same.refl F) R ⟨q1, _, o, he, rfl⟩⟩
    | bw o => obtain ⟨a, q1, q2, q3⟩ := R.ownAt he rfl; exact ⟨_, q1, h _ F H (Same.refl F) R ⟨q1, _, o, he, rfl⟩⟩
theorem rdK {K : PySem.W.Frag} {d : D} {v : V} {σ : St} {H : Hp} {Q : VK} (hd : ∀ F, Rep K F d v) (h : RdE K (cK d) σ H Q) : Q v H := by
  obtain ⟨g, F, e, R, h⟩ := h
  exact h v F H (Same.refl F) R (hd F)
theorem SE.int {i : Int} {j pos} : SE G call C (.Constant (.int i) j pos) (cK (.int i)) := fun X ok => pe_mono pe_int fun σ H Q h => rdK (fun F => by rw [Rep]) h
theorem SE.bl {b : Bool} {j pos} : SE G call C (.Constant (.bool b) j pos) (cK (.bl b)) := fun X ok => pe_mono pe_bl fun σ H Q h => rdK (fun F => by rw [Rep]) h
theorem SE.non {j pos} : SE G call C (.Constant .none j pos) (cK .non) := fun X ok => pe_mono pe_non fun σ H Q h => rdK (fun F => by rw [Rep]) h
theorem SE.str {s : Str} {j pos} : SE G call C (.Constant (.str s) j pos) (cK (.str s)) := fun X ok => pe_mono pe_str fun σ H Q h => rdK (fun F => by rw [Rep]) h
/-- a constant of the module -/
theorem SE.glob {i j : Nat} {x : Str} {d : D} {pos : Pos} (hg : C.gl[j]? = some x) (hc : G.cons[i]? = some (x, d)) : SE G call C (.Name x pos) (cK d) := fun X ok => by
  obtain ⟨g1, g2⟩ := ok.gl hg
  obtain ⟨u, v, m1, m2, m3⟩ := ok.cons i x d hc
  exact pe_mono (pe_glob g1 m1 m2 (okName_debug g2)) fun σ H Q h => rdK m3 h
/-- a built-in class as a value -/
theorem SE.ty {i j : Nat} {x : Str} {n : String} {pos : Pos} (hg : C.gl[j]? = some x) (hc : G.blt[i]? = some x) (hb : bootBuiltins x = some (.type n)) : SE G call C (.Name x pos) (cK (.ty n)) := fun X ok => by
  obtain ⟨g1, g2⟩ := ok.gl hg
  exact pe_mono (pe_bltn (v := .ty n) g1 (ok.blt i x hc) hb rfl (okName_name g2) (okName_debug g2)) fun σ H Q h => rdK (fun F => by rw [Rep]) h
/-! ### operators -/
theorem SE.bin {f : D → D → SR} {op : Operator} {r : Cx → R2} (ho : ∀ X, XOk G call C X → OpR X (binaryOp op) (r X)) (hf : ∀ X F H d d' x y Q, Same F H → View X.K F H d x → View X.K F H d' y → SRok X.K F H Q (f d d') → r X x y H Q)
    {a b : Expr} {ma mb : M Rv} {pos : Pos} (ha : SE G call C a ma) (hb : SE G call C b mb) : SE G call C (.BinOp a op b pos) (c2 f ma mb) := fun X ok =>
  pe_mono (pe_op (ho X ok) (ha X ok) (hb X ok)) fun σ H Q h => rd2 (hf X) h
theorem SE.cmp {f : D → D → SR} {op : CmpOp} {r : Cx → R2} (ho : ∀ X, XOk G call C X → OpR X (compareOp op) (r X)) (hf : ∀ X F H d d' x y Q, Same F H → View X.K F H d x → View X.K F H d' y → SRok X.K F H Q (f d d') → r X x y H Q)
    {a b : Expr} {ma mb : M Rv} {pos : Pos} (ha : SE G call C a ma) (hb : SE G call C b mb) (hm : behindInMarks op b = false) : SE G call C (.Compare a [op] [b] pos) (c2 f ma mb) := fun X ok =>
  pe_mono (pe_cmpR (ho X ok) (ha X ok) (hb X ok) hm) fun σ H Q h => rd2 (hf X) h
end
/-- a result as a test -/
def boolRv : Rv → M Bool
  | .v (.bl b) => ret b
  | _ => fail
def cB (m : M Rv) : M Bool := bnd m boolRv
theorem rdB {K : PySem.W.Frag} {m : M Rv} {σ : St} {H : Hp} {Q : Bool → Hp → Prop} (h : RdT K (cB m) σ H Q) : RdE K m σ H (fun x H' => ∃ k, x = .bl k ∧ Q k H') := by
  obtain ⟨g, F, e, R, h⟩ := h
  refine ⟨g, F, e, R, Out.post_imp (post_bnd.mp h) ?_ (fun _ _ q => q)⟩
  intro r e' q v F' H' s1 R1 ok
  cases r with
  | o ob => exact q.elim
  | s i => exact q.elim
  | v d =>
    cases d with
    | bl b => have ok' : Rep K F' (.bl b) v := ok; rw [Rep] at ok'; exact ⟨b, ok', q F' H' s1 R1⟩
    | _ => exact q.elim
section
variable {G : Prg} {call : Nat → FSem} {C : Cxt}
theorem ST.cmp {f : D → D → SR} {op : CmpOp} {r : Cx → R2} (ho : ∀ X, XOk G call C X → OpR X (compareOp op) (r X)) (hf : ∀ X F H d d' x y Q, Same F H → View X.K F H d x → View X.K F H d' y → SRok X.K F H Q (f d d') → r X x y H Q)
    {a b : Expr} {ma mb : M Rv} {pos : Pos} (ha : SE G call C a ma) (hb : SE G call C b mb) (hm : behindInMarks op b = false) : ST G call C (.Compare a [op] [b] pos) (cB (c2 f ma mb)) := fun X ok =>
  pt_mono (pt_cmpR (ho X ok) (ha X ok) (hb X ok) hm) fun σ H Q h => by
    have h1 := rdB h
    exact rd2 (hf X) h1
/-- truth of a value -/
def truD : D → Option Bool
  | .non => some false
  | .bl b => some b
  | .int i => some (i != 0)
  | .str s => if s.length ≤ sizeLine then some ((s.length : Int) != 0) else none
  | .tup ds => some (!ds.isEmpty)
  | .lst ds => some (!ds.isEmpty)
  | .scr ds => some (!ds.isEmpty)
  | .dic ds => some (!ds.isEmpty)
  | _ => none
def truRv (r : Rv) : M Bool := fun e => match r.view e with
  | some d => match truD d with
    | some b => .ok b e
    | none => .stuck
  | none => .stuck
def cT (m : M Rv) : M Bool := bnd m truRv
theorem isEmpty_len {α β : Type} {l : List α} {m : List β} (h : l.length = m.length) : l.isEmpty = m.isEmpty := by
  cases l <;> cases m <;> simp at h <;> rfl
theorem tru_view {K : PySem.W.Frag} {F H : Hp} {d : D} {x : V} {b : Bool} (s : Same F H) (h : View K F H d x) (hb : truD d = some b) : TruV K x H b := by
  cases d with
  | non => cases hb; rw [h.non]; rfl
  | bl k => cases hb; rw [h.bl]; rfl
  | int i => cases hb; rw [h.int]; rfl
  | str z =>
    simp only [truD] at hb
    split at hb
    · cases hb; rw [h.str]; exact ⟨by assumption, rfl⟩
    · cases hb
  | tup ds => cases hb; obtain ⟨a, vs, rfl, q1, q2, q3⟩ := h.tup s; exact .inr (.inl ⟨vs, q2, by rw [isEmpty_len q3.length]⟩)
  | lst ds => cases hb; obtain ⟨a, vs, rfl, q1, q3⟩ := h.lst s; exact .inl ⟨vs, SqL.of q1, by rw [isEmpty_len q3.length]⟩
  | scr ds => cases hb; obtain ⟨a, vs, rfl, q1, q3⟩ := h.scr s; exact .inl ⟨vs, q1, by rw [isEmpty_len q3.length]⟩
  | dic ds => cases hb; obtain ⟨a, vs, rfl, q1, q3⟩ := h.dic s; exact .inr (.inr ⟨vs, q1, by rw [isEmpty_len q3.length]⟩)
  | dit ds => cases hb
  | pr ds => cases hb
  | ty n => cases hb
theorem rdTru {K : PySem.W.Frag} {m : M Rv} {σ : St} {H : Hp} {Q : Bool → Hp → Prop} (h : RdT K (cT m) σ H Q) : RdE K m σ H (fun x H' => ∃ k, TruV K x H' k ∧ Q k H') := by
  obtain ⟨g, F, e, R, h⟩ := h
  refine ⟨g, F, e, R, Out.post_imp (post_bnd.mp h) ?_ (fun _ _ q => q)⟩
  intro r e' q v F' H' s1 R1 ok
  unfold truRv at q
  cases hv : r.view e' with
  | none => rw [hv] at q; exact q.elim
  | some d =>
    rw [hv] at q
    simp only at q
    cases hb : truD d with
    | none => rw [hb] at q; exact q.elim
    | some b => rw [hb] at q; exact ⟨b, tru_view R1.sub (ok.view R1 hv) hb, q F' H' s1 R1⟩
theorem ST.truth {a : Expr} {m : M Rv} (ha : SE G call C a m) (he : ∀ env whole, isTrue a env whole = (do let v ← whole; standAt a.pos; holding [v] (truthy v)) := by intro _ _; rfl) : ST G call C a (cT m) := fun X ok =>
  pt_mono (pt_truth (ha X ok) (he _)) fun σ H Q h => rdTru h
def tNotM (m : M Bool) : M Bool := bnd m fun b => ret !b
theorem ST.not {a : Expr} {m : M Bool} {pos : Pos} (ha : ST G call C a m) : ST G call C (.UnaryOp .Not a pos) (tNotM m) := fun X ok =>
  pt_mono (pt_not (ha X ok)) fun σ H Q h => by
    obtain ⟨g, F, e, R, h⟩ := h
    exact ⟨g, F, e, R, Out.post_imp (post_bnd.mp h) (fun b e' q => q) (fun _ _ q => q)⟩
def tAndM (a b : M Bool) : M Bool := bnd a fun k => if k = true then b else ret false
def tOrM (a b : M Bool) : M Bool := bnd a fun k => if k = true then ret true else b
theorem SW.and1 {a : Expr} {m : M Bool} {pos : Pos} (ha : ST G call C a m) : SW G call C (.BoolOp .And [a] pos) m := fun X ok => pw_and1 (ha X ok)
theorem SW.or1 {a : Expr} {m : M Bool} {pos : Pos} (ha : ST G call C a m) : SW G call C (.BoolOp .Or [a] pos) m := fun X ok => pw_or1 (ha X ok)
theorem SW.and {a b : Expr} {rest : List Expr} {m n : M Bool} {pos : Pos} (ha : ST G call C a m) (hb : SW G call C (.BoolOp .And (b :: rest) pos) n) : SW G call C (.BoolOp .And (a :: b :: rest) pos) (tAndM m n) := fun X ok =>
  pw_mono (pw_and (ha X ok) (hb X ok)) fun σ H Q h => by
    obtain ⟨g, F, e, R, h⟩ := h
    refine ⟨g, F, e, R, Out.post_imp (post_bnd.mp h) ?_ (fun _ _ q => q)⟩
    intro k e' q F' H' s1 R1
    cases k with
    | true =>
      rw [if_pos rfl] at q ⊢
      exact ⟨g, F', e', R1, Out.post_imp q (fun b e2 q2 F2 H2 s2 => q2 F2 H2 (s1.trans s2)) (fun _ _ q => q)⟩
    | false =>
      rw [if_neg (by decide)] at q ⊢
      exact q F' H' s1 R1
theorem SW.or {a b : Expr} {rest : List Expr} {m n : M Bool} {pos : Pos} (ha : ST G call C a m) (hb : SW G call C (.BoolOp .Or (b :: rest) pos) n) : SW G call C (.BoolOp .Or (a :: b :: rest) pos) (tOrM m n) := fun X ok =>
  pw_mono (pw_or (ha X ok) (hb X ok)) fun σ H Q h => by
    obtain ⟨g, F, e, R, h⟩ := h
    refine ⟨g, F, e, R, Out.post_imp (post_bnd.mp h) ?_ (fun _ _ q => q)⟩
    intro k e' q F' H' s1 R1
    cases k with
    | false =>
      rw [if_neg (by decide)] at q ⊢
      exact ⟨g, F', e', R1, Out.post_imp q (fun b e2 q2 F2 H2 s2 => q2 F2 H2 (s1.trans s2)) (fun _ _ q => q)⟩
    | true =>
      rw [if_pos rfl] at q ⊢
      exact q F' H' s1 R1
theorem ST.w {a : Expr} {m : M Bool} (h : SW G call C a m) : ST G call C a m := fun X ok => (h X ok).pt
/-- a and b, a or b as values: all but the last True or False -/
def cAndV (a b : M Rv) : M Rv := bnd a fun r => bnd (boolRv r) fun k => if k = true then b else ret (.v (.bl false))
def cOrV (a b : M Rv) : M Rv := bnd a fun r => bnd (boolRv r) fun k => if k = true then ret (.v (.bl true)) else b
theorem boolRv_post {K : PySem.W.Frag} {F' : Hp} {H' : Hp} {g : Gh} {e' : En} {σ : St} {α : Type} {r : Rv} {v : V} {f : Bool → M α} {P : α → En → Prop} (ok : RvOk K g F' H' e' σ r v) (q : (bnd (boolRv r) f e').post P NoX) : ∃ k, v = .bl k ∧ (f k e').post P NoX := by
  cases r with
  | o ob => exact q.elim
  | s i => exact q.elim
  | v d =>
    cases d with
    | bl b => have ok' : Rep K F' (.bl b) v := ok; rw [Rep] at ok'; exact ⟨b, ok', q⟩
    | _ => exact q.elim
theorem SE.one {op a m pos} (ha : SE G call C a m) : SE G call C (.BoolOp op [a] pos) m := fun X ok => pe_one (ha X ok)
theorem SE.and {a b : Expr} {rest : List Expr} {m n : M Rv} {pos : Pos} (ha : SE G call C a m) (hb : SE G call C (.BoolOp .And (b :: rest) pos) n) : SE G call C (.BoolOp .And (a :: b :: rest) pos) (cAndV m n) := fun X ok =>
  pe_mono (pe_and (ha X ok) (hb X ok)) fun σ H Q h => by
    obtain ⟨g, F, e, R, h⟩ := h
    refine ⟨g, F, e, R, Out.post_imp (post_bnd.mp h) ?_ (fun _ _ q => q)⟩
    intro r e' q v F' H' s1 R1 ok1
    obtain ⟨k, e1, q⟩ := boolRv_post ok1 q
    refine ⟨k, e1, ?_⟩
    cases k with
    | true =>
      rw [if_pos rfl] at q ⊢
      exact ⟨g, F', e', R1, Out.post_imp q (fun b e2 q2 v2 F2 H2 s2 => q2 v2 F2 H2 (s1.trans s2)) (fun _ _ q => q)⟩
    | false =>
      rw [if_neg (by decide)] at q ⊢
      exact q _ F' H' s1 R1 (show Rep X.K F' (.bl false) (.bl false) by rw [Rep])
theorem SE.or {a b : Expr} {rest : List Expr} {m n : M Rv} {pos : Pos} (ha : SE G call C a m) (hb : SE G call C (.BoolOp .Or (b :: rest) pos) n) : SE G call C (.BoolOp .Or (a :: b :: rest) pos) (cOrV m n) := fun X ok =>
  pe_mono (pe_or (ha X ok) (hb X ok)) fun σ H Q h => by
    obtain ⟨g, F, e, R, h⟩ := h
    refine ⟨g, F, e, R, Out.post_imp (post_bnd.mp h) ?_ (fun _ _ q => q)⟩
    intro r e' q v F' H' s1 R1 ok1
    obtain ⟨k, e1, q⟩ := boolRv_post ok1 q
    refine ⟨k, e1, ?_⟩
    cases k with
    | false =>
      rw [if_neg (by decide)] at q ⊢
      exact ⟨g, F', e', R1, Out.post_imp q (fun b e2 q2 v2 F2 H2 s2 => q2 v2 F2 H2 (s1.trans s2)) (fun _ _ q => q)⟩
    | true =>
      rw [if_pos rfl] at q ⊢
      exact q _ F' H' s1 R1 (show Rep X.K F' (.bl true) (.bl true) by rw [Rep])
/-- not a as a value, by truth -/
def cNotV (m : M Rv) : M Rv := bnd (cT m) fun b => ret (.v (.bl !b))
theorem SE.notT {a : Expr} {m : M Rv} {pos : Pos} (ha : SE G call C a m) : SE G call C (.UnaryOp .Not a pos) (cNotV m) := fun X ok =>
  pe_mono (pe_notT (ha X ok)) fun σ H Q h => by
    obtain ⟨g, F, e, R, h⟩ := h
    refine rdTru (Q := fun k H1 => Q (.bl !k) H1) ⟨g, F, e, R, Out.post_imp (post_bnd.mp h) ?_ (fun _ _ q => q)⟩
    intro b e' q F' H' s1 R1
    exact q _ F' H' s1 R1 (show Rep X.K F' (.bl !b) (.bl !b) by rw [Rep])
def cIf {α : Type} (t : M Bool) (a b : M α) : M α := bnd t fun k => if k = true then a else b
theorem SE.ite {c a b : Expr} {t : M Bool} {m n : M Rv} {pos : Pos} (hc : ST G call C c t) (ha : SE G call C a m) (hb : SE G call C b n) : SE G call C (.IfExp c a b pos) (cIf t m n) := fun X ok =>
  pe_mono (pe_ifExp (hc X ok) (ha X ok) (hb X ok)) fun σ H Q h => by
    obtain ⟨g, F, e, R, h⟩ := h
    refine ⟨g, F, e, R, Out.post_imp (post_bnd.mp h) ?_ (fun _ _ q => q)⟩
    intro k e' q F' H' s1 R1
    cases k with
    | true =>
      rw [if_pos rfl] at q ⊢
      exact ⟨g, F', e', R1, Out.post_imp q (fun b e2 q2 v2 F2 H2 s2 => q2 v2 F2 H2 (s1.trans s2)) (fun _ _ q => q)⟩
    | false =>
      rw [if_neg (by decide)] at q ⊢
      exact ⟨g, F', e', R1, Out.post_imp q (fun b e2 q2 v2 F2 H2 s2 => q2 v2 F2 H2 (s1.trans s2)) (fun _ _ q => q)⟩
end
end PV

namespace PV
open PySem PySem.Spec L2
/-! ### 8. calls of own defs -/
def AV.arg (e : En) : AV → Option Arg
  | .d x => some (.fz x)
  | .s i => match e[i]? with
    | some (.fz y) => some (.fz y)
    | some z => z.own.map Arg.bw
    | none => none
  | .io i => match e[i]? with
    | some (.fz y) => some (.fz y)
    | some (.ow o) => some (.io o)
    | some (.io o) => some (.io o)
    | _ => none
def AV.ix : AV → Option Nat
  | .d _ => none
  | .s i => some i
  | .io i => some i
def argsOf (e : En) : List AV → Option (List Arg)
  | [] => some []
  | a :: as => match a.arg e, argsOf e as with
    | some d, some ds => some (d :: ds)
    | _, _ => none
def dupFree : List AV → Bool
  | [] => true
  | a :: as => (match a.ix with | some k => as.all (fun b => b.ix != some k) | none => true) && dupFree as
def outFor (j : Nat) : List AV → List (Option Ob) → Option Ob
  | .io i :: as, some o :: os => if i = j then some o else outFor j as os
  | _ :: as, _ :: os => outFor j as os
  | _, _ => none
def Slot.setOb (s : Slot) (o : Ob) : Slot := match s with
  | .ow _ => .ow o
  | .io _ => .io o
  | s => s
def updE (as : List AV) (os : List (Option Ob)) : Nat → En → En
  | _, [] => []
  | j, s :: r => (match outFor j as os with | some o => s.setOb o | none => s) :: updE as os (j + 1) r
def rtRv : Rt → Rv
  | .v d => .v d
  | .o ob => .o ob
def cCall (sem : FSem) (ms : List (M AV)) : M Rv := bnd (seqM ms) fun as e => match argsOf e as with
  | some args => if dupFree as = true then match sem args with
      | .ok r outs => .ok (rtRv r) (updE as outs 0 e)
      | .exc x outs => .exc x (updE as outs 0 e)
      | .stuck => .stuck
    else .stuck
  | none => .stuck
theorem updE_get (as : List AV) (os : List (Option Ob)) : ∀ (e : En) (n j : Nat), (updE as os n e)[j]? = e[j]?.map fun s => match outFor (n + j) as os with | some o => s.setOb o | none => s
  | [], n, j => by simp [updE]
  | s :: r, n, 0 => by simp [updE]
  | s :: r, n, j + 1 => by
    simp only [updE, List.getElem?_cons_succ]
    rw [updE_get as os r (n + 1) j, show n + 1 + j = n + (j + 1) by omega]
theorem updE_length (as : List AV) (os : List (Option Ob)) : ∀ (e : En) (n : Nat), (updE as os n e).length = e.length
  | [], n => rfl
  | s :: r, n => by simp [updE, updE_length as os r (n + 1)]
theorem outFor_mem {j : Nat} {u : Ob} : ∀ {as : List AV} {os : List (Option Ob)}, outFor j as os = some u → ∃ k : Nat, as[k]? = some (.io j) ∧ os[k]? = some (some u)
  | [], _, h => by simp [outFor] at h
  | .d _ :: as, [], h => by simp [outFor] at h
  | .s _ :: as, [], h => by simp [outFor] at h
  | .io _ :: as, [], h => by simp [outFor] at h
  | .d _ :: as, _ :: os, h => by simp only [outFor] at h; obtain ⟨k, h1, h2⟩ := outFor_mem h; exact ⟨k + 1, by simpa using h1, by simpa using h2⟩
  | .s _ :: as, _ :: os, h => by simp only [outFor] at h; obtain ⟨k, h1, h2⟩ := outFor_mem h; exact ⟨k + 1, by simpa using h1, by simpa using h2⟩
  | .io i :: as, none :: os, h => by simp only [outFor] at h; obtain ⟨k, h1, h2⟩ := outFor_mem h; exact ⟨k + 1, by simpa using h1, by simpa using h2⟩
  | .io i :: as, some o :: os, h => by
    simp only [outFor] at h
    split at h
    · cases h; rename_i z; subst z; exact ⟨0, rfl, rfl⟩
    · obtain ⟨k, h1, h2⟩ := outFor_mem h; exact ⟨k + 1, by simpa using h1, by simpa using h2⟩
theorem outFor_some {j : Nat} {u : Ob} : ∀ {as : List AV} {os : List (Option Ob)} {k : Nat}, as[k]? = some (.io j) → os[k]? = some (some u) → ∃ w, outFor j as os = some w
  | [], _, _, h, _ => by simp at h
  | _ :: _, [], _, _, h => by simp at h
  | a :: as, o :: os, 0, h1, h2 => by
    simp at h1 h2; subst h1; subst h2; exact ⟨u, by simp [outFor]⟩
  | .d _ :: as, o :: os, k + 1, h1, h2 => by simp only [outFor]; exact outFor_some (by simpa using h1) (by simpa using h2)
  | .s _ :: as, o :: os, k + 1, h1, h2 => by simp only [outFor]; exact outFor_some (by simpa using h1) (by simpa using h2)
  | .io i :: as, none :: os, k + 1, h1, h2 => by simp only [outFor]; exact outFor_some (by simpa using h1) (by simpa using h2)
  | .io i :: as, some o :: os, k + 1, h1, h2 => by
    simp only [outFor]
    split
    · exact ⟨_, rfl⟩
    · exact outFor_some (by simpa using h1) (by simpa using h2)
theorem dupFree_inj : ∀ {as : List AV} {i j : Nat} {a b : AV} {k : Nat}, dupFree as = true → as[i]? = some a → as[j]? = some b → a.ix = some k → b.ix = some k → i = j
  | [], _, _, _, _, _, _, h, _, _, _ => by simp at h
  | x :: as, 0, 0, _, _, _, _, _, _, _, _ => rfl
  | x :: as, i + 1, j + 1, a, b, k, h, h1, h2, h3, h4 => by
    simp only [dupFree, Bool.and_eq_true] at h
    exact congrArg (· + 1) (dupFree_inj h.2 (by simpa using h1) (by simpa using h2) h3 h4)
  | x :: as, 0, j + 1, a, b, k, h, h1, h2, h3, h4 => by
    simp at h1; subst h1
    simp only [dupFree, Bool.and_eq_true, h3] at h
    have := List.all_eq_true.mp h.1 b (List.mem_of_getElem? (by simpa using h2))
    simp [h4] at this
  | x :: as, i + 1, 0, a, b, k, h, h1, h2, h3, h4 => by
    simp at h2; subst h2
    simp only [dupFree, Bool.and_eq_true, h4] at h
    have := List.all_eq_true.mp h.1 a (List.mem_of_getElem? (by simpa using h1))
    simp [h3] at this
section
variable {K : PySem.W.Frag} {g : Gh} {F H : Hp} {e : En} {σ : St}
theorem AvsOk.length : ∀ {as : List AV} {vs : List V}, AvsOk K F σ as vs → as.length = vs.length
  | [], vs, h => by rw [AvsOk] at h; subst h; rfl
  | a :: as, vs, h => by obtain ⟨v, r, rfl, h1, h2⟩ := h; simp [AvsOk.length h2]
theorem AvsOk.get : ∀ {as : List AV} {vs : List V} {i : Nat} {a : AV} {v : V}, AvsOk K F σ as vs → as[i]? = some a → vs[i]? = some v → AvOk K F σ a v
  | [], vs, i, a, v, h, h1, h2 => by simp at h1
  | a :: as, vs, 0, b, v, h, h1, h2 => by obtain ⟨v', r, rfl, q1, q2⟩ := h; simp at h1 h2; subst h1; subst h2; exact q1
  | a :: as, vs, i + 1, b, v, h, h1, h2 => by obtain ⟨v', r, rfl, q1, q2⟩ := h; exact AvsOk.get q2 (by simpa using h1) (by simpa using h2)
theorem argsOf_length : ∀ {as : List AV} {ps : List Arg}, argsOf e as = some ps → as.length = ps.length
  | [], ps, h => by simp only [argsOf, Option.some.injEq] at h; subst h; rfl
  | a :: as, ps, h => by
    unfold argsOf at h
    split at h
    · cases h; rename_i h2; simp [argsOf_length h2]
    · cases h
theorem argsOf_get : ∀ {as : List AV} {ps : List Arg} {i : Nat} {p : Arg}, argsOf e as = some ps → ps[i]? = some p → ∃ a, as[i]? = some a ∧ a.arg e = some p
  | [], ps, i, p, h, q => by simp only [argsOf, Option.some.injEq] at h; subst h; simp at q
  | a :: as, ps, i, p, h, q => by
    unfold argsOf at h
    split at h
    · cases h
      rename_i h1 h2
      cases i with
      | zero => simp at q; subst q; exact ⟨a, rfl, h1⟩
      | succ i => obtain ⟨b, b1, b2⟩ := argsOf_get h2 (by simpa using q); exact ⟨b, by simpa using b1, b2⟩
    · cases h
/-- an own argument stands in an own slot -/
theorem arg_io {a : AV} {o : Ob} (h : a.arg e = some (.io o)) : ∃ i s, a = .io i ∧ e[i]? = some s ∧ s.own = some o ∧ s.setOb o = s ∧ s.pin = false ∨ ∃ i, a = .io i ∧ (e[i]? = some (.ow o) ∨ e[i]? = some (.io o)) := by
  cases a with
  | d x => cases h
  | s i =>
    simp only [AV.arg] at h
    split at h
    · cases h
    · rename_i s _ _; cases ho : s.own <;> rw [ho] at h <;> cases h
    · cases h
  | io i =>
    simp only [AV.arg] at h
    split at h
    · cases h
    · cases h; rename_i q; exact ⟨i, .un, .inr ⟨i, rfl, .inl q⟩⟩
    · cases h; rename_i q; exact ⟨i, .un, .inr ⟨i, rfl, .inr q⟩⟩
    · cases h
theorem arg_io' {a : AV} {o : Ob} (h : a.arg e = some (.io o)) : ∃ i, a = .io i ∧ (e[i]? = some (.ow o) ∨ e[i]? = some (.io o)) := by
  cases a with
  | d x => cases h
  | s i =>
    simp only [AV.arg] at h
    split at h
    · cases h
    · rename_i s _ _; cases ho : s.own <;> rw [ho] at h <;> cases h
    · cases h
  | io i =>
    simp only [AV.arg] at h
    split at h
    · cases h
    · cases h; rename_i q; exact ⟨i, rfl, .inl q⟩
    · cases h; rename_i q; exact ⟨i, rfl, .inr q⟩
    · cases h
theorem arg_bw' {a : AV} {o : Ob} (h : a.arg e = some (.bw o)) : ∃ i s, a = .s i ∧ e[i]? = some s ∧ s.own = some o := by
  cases a with
  | d x => cases h
  | io i =>
    simp only [AV.arg] at h
    split at h <;> cases h
  | s i =>
    simp only [AV.arg] at h
    split at h
    · cases h
    · rename_i s _ q; cases ho : s.own <;> rw [ho] at h <;> cases h; exact ⟨i, s, rfl, q, ho⟩
    · cases h
theorem arg_own {a : AV} {o : Ob} (h : a.arg e = some (.io o) ∨ a.arg e = some (.bw o)) : ∃ i s, a.ix = some i ∧ e[i]? = some s ∧ s.own = some o := by
  rcases h with h | h
  · obtain ⟨i, rfl, q | q⟩ := arg_io' h
    · exact ⟨i, _, rfl, q, rfl⟩
    · exact ⟨i, _, rfl, q, rfl⟩
  · obtain ⟨i, s, rfl, q, r⟩ := arg_bw' h
    exact ⟨i, s, rfl, q, r⟩
theorem AvOk.ixv {a : AV} {v : V} {i : Nat} (h : AvOk K F σ a v) (hi : a.ix = some i) : σ[i]? = some (some v) := by
  cases a with
  | d x => cases hi
  | s j => cases hi; exact h
  | io j => cases hi; exact h
theorem fpre_of (R : Rel K g F e σ H) {as : List AV} {vs : List V} {args : List Arg} (hav : AvsOk K F σ as vs) (ha : argsOf e as = some args) (hd : dupFree as = true) : FPre K F H args vs := by
  have l1 := hav.length
  have l2 := argsOf_length ha
  refine ⟨by omega, R.sub, ?_, ?_⟩
  · intro i p v h1 h2
    obtain ⟨a, q1, q2⟩ := argsOf_get ha h1
    have q3 := hav.get q1 h2
    cases p with
    | fz d =>
      cases a with
      | d x => cases q2; exact q3
      | s j =>
        simp only [AV.arg] at q2
        split at q2
        · cases q2; rename_i z; obtain ⟨u, u1, u2⟩ := R.fzAt z; rw [q3] at u1; cases u1; exact u2
        · rename_i s _ _; cases ho : s.own <;> rw [ho] at q2 <;> cases q2
        · cases q2
      | io j =>
        simp only [AV.arg] at q2
        split at q2
        · cases q2; rename_i z; obtain ⟨u, u1, u2⟩ := R.fzAt z; rw [q3] at u1; cases u1; exact u2
        · cases q2
        · cases q2
        · cases q2
    | io o =>
      obtain ⟨j, s, z1, z2, z3⟩ := arg_own (.inl q2)
      obtain ⟨b, b1, b2, b3⟩ := R.ownAt z2 z3
      rw [q3.ixv z1] at b1; cases b1
      exact ⟨b, rfl, b2, b3⟩
    | bw o =>
      obtain ⟨j, s, z1, z2, z3⟩ := arg_own (.inr q2)
      obtain ⟨b, b1, b2, b3⟩ := R.ownAt z2 z3
      rw [q3.ixv z1] at b1; cases b1
      exact ⟨b, rfl, b2, b3⟩
  · rintro i j b ⟨⟨o, h1⟩, h2⟩ ⟨⟨u, h3⟩, h4⟩
    have key : ∀ {i : Nat} {o : Ob}, (args[i]? = some (.io o) ∨ args[i]? = some (.bw o)) → vs[i]? = some (.ref b) → ∃ a k s, as[i]? = some a ∧ a.ix = some k ∧ e[k]? = some s ∧ s.own = some o ∧ σ[k]? = some (some (.ref b)) := by
      intro i o h1 h2
      have : ∃ a, as[i]? = some a ∧ (a.arg e = some (.io o) ∨ a.arg e = some (.bw o)) := by
        rcases h1 with h1 | h1
        · obtain ⟨a, q1, q2⟩ := argsOf_get ha h1; exact ⟨a, q1, .inl q2⟩
        · obtain ⟨a, q1, q2⟩ := argsOf_get ha h1; exact ⟨a, q1, .inr q2⟩
      obtain ⟨a, q1, q2⟩ := this
      obtain ⟨k, s, z1, z2, z3⟩ := arg_own q2
      exact ⟨a, k, s, q1, z1, z2, z3, (hav.get q1 h2).ixv z1⟩
    obtain ⟨a, k, s, a1, a2, a3, a4, a5⟩ := key h1 h2
    obtain ⟨a', k', s', b1, b2, b3, b4, b5⟩ := key h3 h4
    have : k = k' := R.sep k k' s s' o u b a3 b3 a4 b4 a5 b5
    subst this
    exact dupFree_inj hd a1 b1 a2 b2
/-- behind a call -/
theorem Rel.call (R : Rel K g F e σ H) {as : List AV} {vs : List V} {args : List Arg} (hav : AvsOk K F σ as vs) (ha : argsOf e as = some args) {F' H' : Hp} {r : Rt} {outs : List (Option Ob)} {v : V} (p : FPost K F H args vs F' H' r outs v) :
    Rel K g F' (updE as outs 0 e) σ H' := by
  -- an argument given to be changed
  have back : ∀ {i : Nat} {o : Ob} {b : Addr}, args[i]? = some (.io o) → vs[i]? = some (.ref b) → ∃ k, as[i]? = some (.io k) ∧ (e[k]? = some (.ow o) ∨ e[k]? = some (.io o)) ∧ σ[k]? = some (some (.ref b)) := by
    intro i o b h1 h2
    obtain ⟨a, q1, q2⟩ := argsOf_get ha h1
    obtain ⟨k, rfl, q3⟩ := arg_io' q2
    exact ⟨k, q1, q3, hav.get q1 h2⟩
  have fwd : ∀ {k i : Nat}, as[i]? = some (.io k) → ∀ {s : Slot} {o : Ob}, e[k]? = some s → (s = .ow o ∨ s = .io o) → args[i]? = some (.io o) := by
    intro k i h1 s o h2 h3
    have hl := argsOf_length ha
    have hi : i < args.length := by rw [← hl]; exact (List.getElem?_eq_some_iff.mp h1).1
    have q := List.getElem?_eq_getElem hi
    obtain ⟨a, a1, a2⟩ := argsOf_get ha q
    rw [h1] at a1; cases a1
    simp only [AV.arg, h2] at a2
    rcases h3 with rfl | rfl
    · simp only [Option.some.injEq] at a2; rw [q, ← a2]
    · simp only [Option.some.injEq] at a2; rw [q, ← a2]
  have vsat : ∀ {i k : Nat} {b : Addr}, as[i]? = some (.io k) → σ[k]? = some (some (.ref b)) → vs[i]? = some (.ref b) := by
    intro i k b h1 h2
    have hl := hav.length
    have hi : i < vs.length := by rw [← hl]; exact (List.getElem?_eq_some_iff.mp h1).1
    have q := List.getElem?_eq_getElem hi
    have q2 : σ[k]? = some (some vs[i]) := hav.get h1 q
    rw [h2] at q2
    rw [q, ← Option.some.inj (Option.some.inj q2)]
  have ioSep : ∀ {j : Nat} {s : Slot} {o : Ob} {b : Addr}, e[j]? = some s → s.own = some o → σ[j]? = some (some (.ref b)) → ioAt args vs b → ∃ (i : Nat) (u : Ob), as[i]? = some (.io j) ∧ args[i]? = some (.io u) ∧ vs[i]? = some (.ref b) ∧ (s = .ow u ∨ s = .io u) := by
    rintro j s o b h1 h2 h3 ⟨i, u, h4, h5⟩
    obtain ⟨k, k1, k2, k3⟩ := back h4 h5
    have : j = k := by
      rcases k2 with k2 | k2
      · exact R.sep j k s _ o u b h1 k2 h2 rfl h3 k3
      · exact R.sep j k s _ o u b h1 k2 h2 rfl h3 k3
    subst this
    refine ⟨i, u, k1, h4, h5, ?_⟩
    rw [h1] at k2
    rcases k2 with k2 | k2
    · cases k2; exact .inl rfl
    · cases k2; exact .inr rfl
  have keepF : ∀ {b : Addr} {u : HO}, H b = some u → F b = none → F' b = none := by
    intro b u h1 h2
    cases q : F' b with
    | none => rfl
    | some w =>
      rcases p.fnew b w q with z | z
      · rw [h2] at z; cases z
      · rw [h1] at z; cases z
  -- a slot behind the call
  have slotAt : ∀ (j : Nat) (t : Slot), (updE as outs 0 e)[j]? = some t → ∃ s, e[j]? = some s ∧ ((t = s ∧ outFor j as outs = none) ∨ ∃ u, outFor j as outs = some u ∧ t = s.setOb u) := by
    intro j t h
    rw [updE_get, Nat.zero_add] at h
    cases hs : e[j]? with
    | none => rw [hs] at h; cases h
    | some s =>
      rw [hs] at h
      simp only [Option.map_some, Option.some.injEq] at h
      refine ⟨s, rfl, ?_⟩
      cases ho : outFor j as outs with
      | none => rw [ho] at h; exact .inl ⟨h.symm, rfl⟩
      | some u => rw [ho] at h; exact .inr ⟨u, rfl, h.symm⟩
  have ownBack : ∀ {s : Slot} {u o : Ob}, (s.setOb u).own = some o → ∃ o', s.own = some o' := by
    intro s u o h
    cases s <;> first | exact ⟨_, rfl⟩ | cases h
  have own2 : ∀ (j : Nat) (t : Slot) (o : Ob), (updE as outs 0 e)[j]? = some t → t.own = some o → ∃ s o', e[j]? = some s ∧ s.own = some o' := by
    intro j t o h1 h2
    obtain ⟨s, s1, s2⟩ := slotAt j t h1
    rcases s2 with ⟨rfl, _⟩ | ⟨u, _, rfl⟩
    · exact ⟨t, o, s1, h2⟩
    · obtain ⟨o', ho'⟩ := ownBack h2; exact ⟨s, o', s1, ho'⟩
  -- what stands at an own slot's address behind the call
  have atOwn : ∀ {j : Nat} {s : Slot} {o : Ob} {b : Addr}, e[j]? = some s → s.own = some o → σ[j]? = some (some (.ref b)) →
      (outFor j as outs = none → H' b = H b ∧ F' b = none) ∧ (∀ u, outFor j as outs = some u → (s = .ow o ∨ s = .io o) → ObAt K F' (H' b) u ∧ F' b = none) := by
    intro j s o b h1 h2 h3
    obtain ⟨c, c1, c2, c3⟩ := R.ownAt h1 h2
    rw [h3] at c1; cases c1
    obtain ⟨x, hx⟩ := c2.live
    refine ⟨fun hn => ?_, fun u hu hs => ?_⟩
    · have nio : ¬ ioAt args vs b := fun z => by
        obtain ⟨i, u, i1, i2, i3, _⟩ := ioSep h1 h2 h3 z
        obtain ⟨w, w1, _⟩ := p.outs i u b i2 i3
        obtain ⟨y, hy⟩ := outFor_some i1 w1
        rw [hn] at hy; cases hy
      exact ⟨by rw [p.old b x hx nio, hx], keepF hx c3⟩
    · obtain ⟨k, k1, k2⟩ := outFor_mem hu
      have q1 := fwd k1 h1 hs
      have q2 := vsat k1 h3
      obtain ⟨w, w1, w2, w3⟩ := p.outs k o b q1 q2
      rw [k2] at w1; cases w1
      exact ⟨w2, w3⟩
  refine ⟨by rw [updE_length]; exact R.len, p.sub, ?_, ?_, ?_, ?_, ?_, ?_, fun a o h => p.fold a o (R.fold a o h), ?_, ?_, ?_⟩
  · intro j t w h1 h2
    obtain ⟨s, s1, s2⟩ := slotAt j t h1
    have base := R.slot j s w s1 h2
    rcases s2 with ⟨rfl, hn⟩ | ⟨u, hu, rfl⟩
    · refine base.keep p.fold fun b o hv ho => ?_
      exact (atOwn s1 ho (by rw [h2, hv])).1 hn
    · cases s with
      | un => exact base
      | fz d => exact base.keep p.fold fun b o hv ho => by cases ho
      | ow o =>
        obtain ⟨b, b1, b2, b3⟩ := base
        obtain ⟨z1, z2⟩ := (atOwn s1 rfl (by rw [h2, b1])).2 u hu (.inl rfl)
        exact ⟨b, b1, z1, z2⟩
      | io o =>
        obtain ⟨b, b1, b2, b3⟩ := base
        obtain ⟨z1, z2⟩ := (atOwn s1 rfl (by rw [h2, b1])).2 u hu (.inr rfl)
        exact ⟨b, b1, z1, z2⟩
      | bw o =>
        obtain ⟨b, b1, b2, b3⟩ := base
        obtain ⟨x, hx⟩ := b2.live
        have nio : ¬ ioAt args vs b := fun z => by
          obtain ⟨i, w, i1, i2, i3, i4⟩ := ioSep s1 rfl (by rw [h2, b1]) z
          rcases i4 with i4 | i4 <;> cases i4
        refine ⟨b, b1, ?_, keepF hx b3⟩
        rw [p.old b x hx nio, ← hx]
        exact b2.mono p.fold
  · intro i j s t o u a h1 h2 o1 o2 r1 r2
    obtain ⟨s', o', s1, s2⟩ := own2 i s o h1 o1
    obtain ⟨t', u', t1, t2⟩ := own2 j t u h2 o2
    exact R.sep i j s' t' o' u' a s1 t1 s2 t2 r1 r2
  · intro i o a h1 h2
    obtain ⟨s, s1, s2⟩ := slotAt i _ h1
    have : ∃ o', s = .ow o' := by
      rcases s2 with ⟨rfl, _⟩ | ⟨u, _, q⟩
      · exact ⟨o, rfl⟩
      · cases s <;> first | exact ⟨_, rfl⟩ | cases q
    obtain ⟨o', rfl⟩ := this
    exact R.fre i o' a s1 h2
  · intro i o a h1 h2
    obtain ⟨s, s1, s2⟩ := slotAt i _ h1
    have : ∃ o', s = .io o' := by
      rcases s2 with ⟨rfl, _⟩ | ⟨u, _, q⟩
      · exact ⟨o, rfl⟩
      · cases s <;> first | exact ⟨_, rfl⟩ | cases q
    obtain ⟨o', rfl⟩ := this
    exact R.ino i o' a s1 h2
  · intro a o h1 h2 h3
    refine p.old a o (R.old a o h1 h2 h3) ?_
    rintro ⟨i, u, i1, i2⟩
    obtain ⟨k, k1, k2, k3⟩ := back i1 i2
    rcases k2 with k2 | k2
    · rcases R.fre k u a k2 k3 with z | z
      · rw [z] at h1; cases h1
      · exact h3 z
    · exact h2 (R.ino k u a k2 k3)
  · intro a h
    obtain ⟨o, ho⟩ := R.liv a h
    by_cases z : ioAt args vs a
    · obtain ⟨i, u, i1, i2⟩ := z
      obtain ⟨w, w1, w2, w3⟩ := p.outs i u a i1 i2
      exact w2.live
    · exact ⟨o, p.old a o ho z⟩
  · intro a o h
    rcases p.fnew a o h with z | z
    · exact R.fnew a o z
    · exact .inr (.inl (R.fresh z))
  · intro i a h
    obtain ⟨p1, s, s1, s2⟩ := R.pin i a h
    refine ⟨p1, (match outFor i as outs with | some o => s.setOb o | none => s), ?_, ?_⟩
    · rw [updE_get, Nat.zero_add, s1]; rfl
    · cases outFor i as outs with
      | none => exact s2
      | some u => cases s <;> first | rfl | cases s2
  · intro i o a h1 h2
    obtain ⟨s, s1, s2⟩ := slotAt i _ h1
    have : ∃ o', s = .bw o' := by
      rcases s2 with ⟨rfl, _⟩ | ⟨u, _, q⟩
      · exact ⟨o, rfl⟩
      · cases s <;> first | exact ⟨_, rfl⟩ | cases q
    obtain ⟨o', rfl⟩ := this
    exact R.bwp i o' a s1 h2
end
section
variable {G : Prg} {call : Nat → FSem} {C : Cxt}
theorem rdCall {K : PySem.W.Frag} {sem : FSem} {ms : List (M AV)} {σ : St} {H : Hp} {Q : VK} (h : RdE K (cCall sem ms) σ H Q) : RdA K ms σ H (fun vs H1 => spF K sem vs H1 Q E0) := by
  obtain ⟨g, F, e, R, h⟩ := h
  refine ⟨g, F, e, R, Out.post_imp (post_bnd.mp h) ?_ (fun _ _ q => q)⟩
  intro as e' q vs F' H' s1 R1 ok
  cases hA : argsOf e' as with
  | none => simp only [hA] at q; exact q.elim
  | some args =>
    simp only [hA] at q
    by_cases hd : dupFree as = true
    · rw [if_pos hd] at q
      refine ⟨F', args, fpre_of R1 ok hA hd, ?_⟩
      cases hs : sem args with
      | stuck => simp only [hs] at q; exact q.elim
      | exc x o => simp only [hs] at q; exact q.elim
      | ok r outs =>
        simp only [hs] at q
        intro v F2 H2 p
        refine q v F2 H2 (s1.trans p.fold) (R1.call ok hA p) ?_
        cases r with
        | v d => exact p.ret
        | o ob =>
          obtain ⟨a, rfl, a1, a2, a3⟩ := p.ret
          refine ⟨a, rfl, a1, a2, R1.fresh a3, ?_⟩
          intro j t o h1 h2 h3
          have : ∃ s o', e'[j]? = some s ∧ s.own = some o' := by
            rw [updE_get, Nat.zero_add] at h1
            cases hs : e'[j]? with
            | none => rw [hs] at h1; cases h1
            | some s =>
              rw [hs] at h1
              simp only [Option.map_some, Option.some.injEq] at h1
              refine ⟨s, ?_⟩
              cases ho : outFor j as outs with
              | none => rw [ho] at h1; simp only at h1; subst h1; exact ⟨o, rfl, h2⟩
              | some u => rw [ho] at h1; simp only at h1; subst h1; cases s <;> first | exact ⟨_, rfl, rfl⟩ | cases h2
          obtain ⟨s, o', s1, s2⟩ := this
          obtain ⟨b, b1, b2, _⟩ := R1.ownAt s1 s2
          rw [h3] at b1; cases b1
          obtain ⟨u, hu⟩ := b2.live
          rw [a3] at hu; cases hu
    · rw [if_neg hd] at q; exact q.elim
theorem SE.fn {i j : Nat} {x : Str} {e : Expr} {es : List Expr} {ms : List (M AV)} {p pos : Pos} (hg : C.gl[j]? = some x) (hn : G.names[i]? = some x) (ha : SA G call C (e :: es) ms)
    (he : ∀ env, starEach (e :: es) env = (false, eval e env) :: starEach es env := by intro _; rfl) (hpl : ∀ env, (backTo pos (starEach es env)).any (·.1) = false := by intro _; rfl) :
    SE G call C (.Call (.Name x p) (e :: es) [] pos) (cCall (call i) ms) := fun X ok => by
  obtain ⟨g1, g2⟩ := ok.gl hg
  obtain ⟨k, f, fd, ps, F, hr, hm, hk, hb⟩ := (ok.fns i x hn).ex
  refine pe_mono (pe_call F hr g1 hm hk hb .nil pass0 (ha X ok) (okName_debug g2) (he _) (hpl _)) fun σ H Q h => ?_
  have q := rdCall h
  show RdA X.K ms σ H fun vs H1 => spF X.K (call i) (vs ++ []) H1 Q E0
  simpa only [List.append_nil] using q
theorem SE.fn0 {i j : Nat} {x : Str} {p pos : Pos} (hg : C.gl[j]? = some x) (hn : G.names[i]? = some x) : SE G call C (.Call (.Name x p) [] [] pos) (cCall (call i) []) := fun X ok => by
  obtain ⟨g1, g2⟩ := ok.gl hg
  obtain ⟨k, f, fd, ps, F, hr, hm, hk, hb⟩ := (ok.fns i x hn).ex
  refine pe_mono (pe_call0 F hr g1 hm hk hb .nil pass0 (okName_debug g2)) fun σ H Q h => ?_
  obtain ⟨g, F0, e, R, q⟩ := rdCall h
  exact q [] F0 H (Same.refl F0) R (by rw [AvsOk])
end
end PV

namespace PV
open PySem PySem.Spec L2
/-! ### 9. statements -/
def sNx : M Fl := ret .nx
def sSeq (a b : M Fl) : M Fl := bnd a fun f => match f with
  | .nx => b
  | f => ret f
def sRet (m : M Rv) : M Fl := bnd m fun r => ret (.rt r)
def sRetN : M Fl := ret (.rt (.v .non))
def sExpr (m : M Rv) : M Fl := bnd m fun _ => ret .nx
def sBk : M Fl := ret .bk
def sCt : M Fl := ret .ct
def asgRv (i : Nat) : Rv → M Fl := fun r e => match e[i]? with
  | none => .stuck
  | some s => if s.pin = true then .stuck else match r with
    | .v d => .ok .nx (e.set i (.fz d))
    | .o ob => .ok .nx (e.set i (.ow ob))
    | .s j => match e[j]? with
      | some (.ow o) => .ok .nx ((e.set j (.fz o.val)).set i (.fz o.val))
      | some (.fz d) => .ok .nx (e.set i (.fz d))
      | _ => .stuck
def sAsg (i : Nat) (m : M Rv) : M Fl := bnd m (asgRv i)
section
variable {G : Prg} {call : Nat → FSem} {C : Cxt}
theorem SSs.nil : SSs G call C [] sNx := fun X ok => pss_mono pss_nil fun D σ H h => by
  obtain ⟨g, F, e, R, h⟩ := h
  exact h σ F H (Same.refl F) R
theorem SSs.cons {s : Stmt} {r : List Stmt} {m n : M Fl} (h1 : SS G call C s m) (h2 : SSs G call C r n) : SSs G call C (s :: r) (sSeq m n) := fun X ok => pss_mono (pss_cons (h1 X ok) (h2 X ok)) fun D σ H h => by
  obtain ⟨g, F, e, R, h⟩ := h
  refine ⟨g, F, e, R, Out.post_imp (post_bnd.mp h) ?_ (fun _ _ q => q)⟩
  intro f e1 q
  cases f with
  | nx =>
    intro σ1 F1 H1 s1 R1
    exact ⟨g, F1, e1, R1, Out.post_imp q (fun f e2 q2 => q2.mono s1) (fun _ _ q => q)⟩
  | bk => exact q
  | ct => exact q
  | rt r => exact q
theorem SSs.one {s : Stmt} {m : M Fl} (h1 : SS G call C s m) : SSs G call C [s] m := fun X ok => pss_one (h1 X ok)
theorem SS.pass {pos} : SS G call C (.Pass pos) sNx := fun X ok => ps_mono ps_pass fun D σ H h => by
  obtain ⟨g, F, e, R, h⟩ := h
  exact h σ F H (Same.refl F) R
theorem SS.brk {pos} : SS G call C (.Break pos) sBk := fun X ok => ps_mono ps_break fun D σ H h => by
  obtain ⟨g, F, e, R, h⟩ := h
  exact h σ F H (Same.refl F) R
theorem SS.cnt {pos} : SS G call C (.Continue pos) sCt := fun X ok => ps_mono ps_continue fun D σ H h => by
  obtain ⟨g, F, e, R, h⟩ := h
  exact h σ F H (Same.refl F) R
theorem SS.ret {e : Expr} {m : M Rv} {pos : Pos} (he : SE G call C e m) : SS G call C (.Return (some e) pos) (sRet m) := fun X ok => ps_mono (ps_ret (he X ok)) fun D σ H h => by
  obtain ⟨g, F, e, R, h⟩ := h
  refine ⟨g, F, e, R, Out.post_imp (post_bnd.mp h) ?_ (fun _ _ q => q)⟩
  intro r e' q v F' H' s1 R1 ok1
  exact q v σ F' H' s1 R1 ok1
theorem SS.retN {pos : Pos} : SS G call C (.Return none pos) sRetN := fun X ok => ps_mono ps_retN fun D σ H h => by
  obtain ⟨g, F, e, R, h⟩ := h
  exact h .non σ F H (Same.refl F) R (show Rep X.K F .non .non by rw [Rep])
theorem SS.expr {e : Expr} {m : M Rv} {pos : Pos} (he : SE G call C e m) (hs : ∀ env, swapsWith e none pos.line env = pure false := by intro _; rfl) : SS G call C (.Expr e pos) (sExpr m) := fun X ok => ps_mono (ps_expr (he X ok) (hs _)) fun D σ H h => by
  obtain ⟨g, F, e, R, h⟩ := h
  refine ⟨g, F, e, R, Out.post_imp (post_bnd.mp h) ?_ (fun _ _ q => q)⟩
  intro r e' q v F' H' s1 R1 ok1
  exact q σ F' H' s1 R1
theorem SS.ite {c : Expr} {a b : List Stmt} {t : M Bool} {m n : M Fl} {pos : Pos} (hc : ST G call C c t) (ha : SSs G call C a m) (hb : SSs G call C b n) : SS G call C (.If c a b pos) (cIf t m n) := fun X ok =>
  ps_mono (ps_if (hc X ok) (ha X ok) (hb X ok)) fun D σ H h => by
    obtain ⟨g, F, e, R, h⟩ := h
    refine ⟨g, F, e, R, Out.post_imp (post_bnd.mp h) ?_ (fun _ _ q => q)⟩
    intro k e' q F' H' s1 R1
    cases k with
    | true =>
      rw [if_pos rfl] at q ⊢
      exact ⟨g, F', e', R1, Out.post_imp q (fun f e2 q2 => q2.mono s1) (fun _ _ q => q)⟩
    | false =>
      rw [if_neg (by decide)] at q ⊢
      exact ⟨g, F', e', R1, Out.post_imp q (fun f e2 q2 => q2.mono s1) (fun _ _ q => q)⟩
theorem asg_post {K : PySem.W.Frag} {g : Gh} {F H : Hp} {e : En} {σ : St} {i : Nat} {r : Rv} {v : V} {P : Fl → En → Prop} (R : Rel K g F e σ H) (ok : RvOk K g F H e σ r v) (h : (asgRv i r e).post P NoX) :
    ∃ e' F', P .nx e' ∧ Same F F' ∧ Rel K g F' e' (σ.set i (some v)) H := by
  unfold asgRv at h
  cases hi : e[i]? with
  | none => rw [hi] at h; exact h.elim
  | some s =>
    rw [hi] at h
    simp only at h
    by_cases hp : s.pin = true
    · rw [if_pos hp] at h; exact h.elim
    · rw [if_neg hp] at h
      have hpin : ∀ t : Slot, e[i]? = some t → t.pin = false := fun t ht => by rw [hi] at ht; cases ht; simpa using hp
      cases r with
      | v d => exact ⟨_, F, h, Same.refl F, R.put ok hpin⟩
      | o ob => obtain ⟨a, rfl, a1, a2, a3, a4⟩ := ok; exact ⟨_, F, h, Same.refl F, R.putOw a1 a2 (.inl a3) a4 hpin⟩
      | s j =>
        obtain ⟨o1, t, o, o2, o3⟩ := ok
        simp only at h
        rw [o2] at h
        cases t with
        | un => cases o3
        | fz d => cases o3
        | io u => exact h.elim
        | bw u => exact h.elim
        | ow u =>
          obtain ⟨a, F2, q1, s2, rp, R2⟩ := R.frz o2
          rw [o1] at q1; cases q1
          refine ⟨_, F2, h, s2, R2.put rp ?_⟩
          intro t ht
          rcases get_set ht with ⟨_, rfl, _⟩ | ⟨_, q⟩
          · rfl
          · exact hpin t q
theorem SS.asg {i : Nat} {x : Str} {e : Expr} {m : M Rv} {pos pos' : Pos} (hN : C.N[i]? = some x) (hst : C.st[i]? = some true) (he : SE G call C e m)
    (hs : ∀ env, swapsWithSole [.Name x pos'] e pos.line env = pure false := by intro _; rfl) (hw : ∀ env, swappedStores [.Name x pos'] e env = pure none := by intro _; rfl) : SS G call C (.Assign [.Name x pos'] e pos) (sAsg i m) := fun X ok => by
  obtain ⟨l1, l2⟩ := ok.stor i x hN hst
  refine ps_mono (ps_asg (he X ok) (pg_name (i := i) ok.nd (by rw [ok.N]; exact hN) l1 l2) (hs _) (hw _)) fun D σ H h => ?_
  obtain ⟨g, F, e, R, h⟩ := h
  refine ⟨g, F, e, R, Out.post_imp (post_bnd.mp h) ?_ (fun _ _ q => q)⟩
  intro r e' q v F' H' s1 R1 ok1
  obtain ⟨e2, F2, q2, s2, R2⟩ := asg_post R1 ok1 q
  exact q2 _ F2 H' (s1.trans s2) R2
/-! ### targets -/
/-- but for the slots ts the same -/
def Agr (ts : List Nat) (σ σ' : L2.St) : Prop := σ'.length = σ.length ∧ ∀ i, i ∉ ts → σ'[i]? = σ[i]?
def RdG (K : PySem.W.Frag) (ts : List Nat) (f : D → M Unit) : TG := fun v σ H Q => ∃ g F e d, Rel K g F e σ H ∧ Rep K F d v ∧
  (f d e).post (fun _ e' => ∀ σ' F' H', Same F F' → Rel K g F' e' σ' H' → Agr ts σ σ' → Q σ' H') NoX
def RdGs (K : PySem.W.Frag) (ts : List Nat) (f : List D → M Unit) : TGs := fun v σ H Q => ∃ g F e d, Rel K g F e σ H ∧ Reps K F d v ∧
  (f d e).post (fun _ e' => ∀ σ' F' H', Same F F' → Rel K g F' e' σ' H' → Agr ts σ σ' → Q σ' H') NoX
def SG (G : Prg) (call : Nat → FSem) (C : Cxt) (tg : Expr) (ts : List Nat) (f : D → M Unit) : Prop := ∀ X, XOk G call C X → PG X tg (RdG X.K ts f)
def SGs (G : Prg) (call : Nat → FSem) (C : Cxt) (tgs : List Expr) (ts : List Nat) (f : List D → M Unit) : Prop := ∀ X, XOk G call C X → PGs X tgs (RdGs X.K ts f)
theorem pg_mono {X : Cx} {e : Expr} {t t' : TG} (h : PG X e t) (k : ∀ v σ H Q, t' v σ H Q → t v σ H Q) : PG X e t' := ⟨fun pins s σ H v u Q I r q => h.run pins s σ H v u Q I r (k v σ H Q q)⟩
theorem pgs_mono {X : Cx} {e : List Expr} {t t' : TGs} (h : PGs X e t) (k : ∀ v σ H Q, t' v σ H Q → t v σ H Q) : PGs X e t' := ⟨fun pins s σ H v u Q I r q => h.run pins s σ H v u Q I r (k v σ H Q q)⟩
def tgN (i : Nat) : D → M Unit := fun d e => match e[i]? with
  | none => .stuck
  | some s => if s.pin = true then .stuck else .ok () (e.set i (.fz d))
def tgNil : List D → M Unit
  | [] => ret ()
  | _ => fail
def tgCons (f : D → M Unit) (g : List D → M Unit) : List D → M Unit
  | [] => fail
  | d :: ds => bnd (f d) fun _ => g ds
def tgT (n : Nat) (f : List D → M Unit) : D → M Unit
  | .tup ds => if ds.length = n then f ds else fail
  | .pr ds => if ds.length = n then f ds else fail
  | .lst ds => if ds.length = n then f ds else fail
  | _ => fail
theorem pg_or {X : Cx} {e : Expr} {t1 t2 : TG} (h1 : PG X e t1) (h2 : PG X e t2) : PG X e (fun v σ H Q => t1 v σ H Q ∨ t2 v σ H Q) := ⟨fun pins s σ H v u Q I r q => q.elim (h1.run pins s σ H v u Q I r) (h2.run pins s σ H v u Q I r)⟩
theorem SG.name {i : Nat} {x : Str} {pos : Pos} (hN : C.N[i]? = some x) (hst : C.st[i]? = some true) : SG G call C (.Name x pos) [i] (tgN i) := fun X ok => by
  obtain ⟨l1, l2⟩ := ok.stor i x hN hst
  refine pg_mono (pg_name (i := i) ok.nd (by rw [ok.N]; exact hN) l1 l2) ?_
  rintro v σ H Q ⟨g, F, e, d, R, hr, h⟩
  unfold tgN at h
  cases hi : e[i]? with
  | none => rw [hi] at h; exact h.elim
  | some s =>
    rw [hi] at h
    simp only at h
    by_cases hp : s.pin = true
    · rw [if_pos hp] at h; exact h.elim
    · rw [if_neg hp] at h
      refine h _ F H (Same.refl F) (R.put hr fun t ht => by rw [hi] at ht; cases ht; simpa using hp) ?_
      refine ⟨List.length_set .., fun j hj => ?_⟩
      rw [List.getElem?_set, if_neg]
      intro z; exact hj (by simp [z])
theorem SGs.nil : SGs G call C [] [] tgNil := fun X ok => pgs_mono pgs_nil fun v σ H Q ⟨g, F, e, d, R, hr, h⟩ => by
  cases d with
  | nil => rw [Reps] at hr; exact ⟨hr, h σ F H (Same.refl F) R ⟨rfl, fun _ _ => rfl⟩⟩
  | cons a b => exact h.elim
theorem SGs.cons {t : Expr} {ts : List Expr} {is js : List Nat} {f : D → M Unit} {fs : List D → M Unit} (h1 : SG G call C t is f) (h2 : SGs G call C ts js fs) (hs : ∀ env, (assignEach (t :: ts) env).map (·.2) = assign t env :: (assignEach ts env).map (·.2) := by intro _; rfl) : SGs G call C (t :: ts) (is ++ js) (tgCons f fs) := fun X ok => by
  refine pgs_mono (pgs_cons (h1 X ok) (h2 X ok) (hs _)) ?_
  rintro v σ H Q ⟨g, F, e, d, R, hr, h⟩
  cases d with
  | nil => exact h.elim
  | cons a b =>
    rw [Reps] at hr
    obtain ⟨x, r, rfl, r1, r2⟩ := hr
    refine ⟨x, r, rfl, g, F, e, a, R, r1, Out.post_imp (post_bnd.mp h) ?_ (fun _ _ q => q)⟩
    intro _ e1 q σ1 F1 H1 s1 R1 n1
    refine ⟨g, F1, e1, b, R1, r2.mono s1, Out.post_imp q (fun _ e2 q2 σ2 F2 H2 s2 R2 n2 => q2 σ2 F2 H2 (s1.trans s2) R2 ⟨n2.1.trans n1.1, fun i hi => ?_⟩) (fun _ _ q => q)⟩
    rw [n2.2 i (fun z => hi (List.mem_append_right _ z)), n1.2 i (fun z => hi (List.mem_append_left _ z))]
theorem SG.tup {ts : List Expr} {is : List Nat} {fs : List D → M Unit} {n k : Nat} {pos : Pos} (h : SGs G call C ts is fs) (hn : ∀ env, (assignEach ts env).length = n := by intro _; rfl) (hst : ∀ env, (assignEach ts env).findIdx? (·.1) = none := by intro _; rfl) :
    SG G call C (.Tuple ts k pos) is (tgT n fs) := fun X ok => by
  refine pg_mono (pg_or (pg_tup ok.calm (h X ok) (hn _) (hst _)) (pg_unl ok.calm (h X ok) (hn _) (hst _))) ?_
  rintro v σ H Q ⟨g, F, e, d, R, hr, h⟩
  cases d with
  | tup ds =>
    rw [Rep] at hr
    obtain ⟨a, vs, rfl, q1, q2⟩ := hr
    simp only [tgT] at h
    by_cases z : ds.length = n
    · rw [if_pos z] at h
      exact .inl ⟨a, vs, rfl, sqT_mono R.sub q1.sq, by rw [← q2.length]; exact z, g, F, e, ds, R, q2, h⟩
    · rw [if_neg z] at h; exact h.elim
  | pr ds =>
    rw [Rep] at hr
    obtain ⟨a, vs, rfl, q1, q2⟩ := hr
    simp only [tgT] at h
    by_cases z : ds.length = n
    · rw [if_pos z] at h
      exact .inl ⟨a, vs, rfl, sqT_mono R.sub q1, by rw [← q2.length]; exact z, g, F, e, ds, R, q2, h⟩
    · rw [if_neg z] at h; exact h.elim
  | lst ds =>
    rw [Rep] at hr
    obtain ⟨a, vs, rfl, q1, q2⟩ := hr
    simp only [tgT] at h
    by_cases z : ds.length = n
    · rw [if_pos z] at h
      exact .inr ⟨a, vs, rfl, SqL.of (R.sub _ _ q1), by rw [← q2.length]; exact z, g, F, e, ds, R, q2, h⟩
    · rw [if_neg z] at h; exact h.elim
  | _ => exact h.elim
def sAsgT (f : D → M Unit) (m : M Rv) : M Fl := bnd (cVal m) fun d => bnd (f d) fun _ => ret .nx
theorem SS.asgT {t e : Expr} {is : List Nat} {f : D → M Unit} {m : M Rv} {pos : Pos} (ht : SG G call C t is f) (he : SE G call C e m)
    (hs : ∀ env, swapsWithSole [t] e pos.line env = pure false := by intro _; rfl) (hw : ∀ env, swappedStores [t] e env = pure none := by intro _; rfl) (h1 : ∀ env, (assignEach [t] env).map (·.2) = [assign t env] := by intro _; rfl) :
    SS G call C (.Assign [t] e pos) (sAsgT f m) := fun X ok => by
  refine ps_mono (ps_asg (he X ok) (ht X ok) (hs _) (hw _) (h1 _)) fun D σ H h => ?_
  obtain ⟨g, F, e, R, h⟩ := h
  refine rdD ⟨g, F, e, R, Out.post_imp (post_bnd.mp h) ?_ (fun _ _ q => q)⟩
  intro d e1 q v F1 H1 s1 R1 ok1
  exact ⟨g, F1, e1, d, R1, ok1, Out.post_imp (post_bnd.mp q) (fun _ e2 q2 σ2 F2 H2 s2 R2 _ => q2 σ2 F2 H2 (s1.trans s2) R2) (fun _ _ q => q)⟩
/-- a, b = x, y: two local names -/
def sPar (i j : Nat) (ma mb : M Rv) : M Fl := bnd (cVal ma) fun x => bnd (cVal mb) fun y => bnd (tgN i x) fun _ => bnd (tgN j y) fun _ => ret .nx
theorem SS.par {i j : Nat} {x y : Str} {a b : Expr} {ma mb : M Rv} {px py pt pos : Pos} {kt k2 : Nat} {pt2 : Pos} (hi : C.N[i]? = some x) (hj : C.N[j]? = some y) (hij : i ≠ j) (hx : C.sc.names.lookup x = some .local) (hy : C.sc.names.lookup y = some .local)
    (ha : SE G call C a ma) (hb : SE G call C b mb)
    (hw : ∀ env, env.scope = C.sc → swappedStores [.Tuple [.Name x px, .Name y py] kt pt] (.Tuple [a, b] k2 pt2) env = pure (some [x, y]))
    (s1 : ∀ env, starEach [a, b] env = (false, eval a env) :: starEach [b] env := by intro _; rfl) (s2 : ∀ env, starEach [b] env = (false, eval b env) :: starEach [] env := by intro _; rfl)
    (hs : ∀ env, swapsWithSole [.Tuple [.Name x px, .Name y py] kt pt] (.Tuple [a, b] k2 pt2) pos.line env = pure false := by intro _; rfl) :
    SS G call C (.Assign [.Tuple [.Name x px, .Name y py] kt pt] (.Tuple [a, b] k2 pt2) pos) (sPar i j ma mb) := fun X ok => by
  refine ps_mono (ps_par ok.calm ok.nd (by rw [ok.N]; exact hi) (by rw [ok.N]; exact hj) hij (by rw [ok.sc]; exact hx) (by rw [ok.sc]; exact hy) (pa_cons (ha X ok) (pa_cons (hb X ok) pa_nil (s2 _)) (s1 _)) (hw _ ok.sc) (hs _)) fun D σ H h => ?_
  obtain ⟨g, F, e, R, h⟩ := h
  refine rdD ⟨g, F, e, R, Out.post_imp (post_bnd.mp h) ?_ (fun _ _ q => q)⟩
  intro d e1 q v F1 H1 s1 R1 ok1
  refine rdD ⟨g, F1, e1, R1, Out.post_imp (post_bnd.mp q) ?_ (fun _ _ q => q)⟩
  intro d2 e2 q2 v2 F2 H2 s2 R2 ok2
  refine ⟨v, v2, rfl, ?_⟩
  have q3 := post_bnd.mp q2
  unfold tgN at q3
  cases hh : e2[i]? with
  | none => rw [hh] at q3; exact q3.elim
  | some s =>
    rw [hh] at q3
    simp only at q3
    by_cases hp : s.pin = true
    · rw [if_pos hp] at q3; exact q3.elim
    · rw [if_neg hp] at q3
      have R3 := R2.put (i := i) (ok1.mono s2) fun t ht => by rw [hh] at ht; cases ht; simpa using hp
      have q4 := post_bnd.mp q3
      cases hk : (e2.set i (.fz d))[j]? with
      | none => rw [hk] at q4; exact q4.elim
      | some t =>
        rw [hk] at q4
        simp only at q4
        by_cases hp2 : t.pin = true
        · rw [if_pos hp2] at q4; exact q4.elim
        · rw [if_neg hp2] at q4
          have R4 := R3.put (i := j) ok2 fun u hu => by rw [hk] at hu; cases hu; simpa using hp2
          exact q4 _ F2 H2 (s1.trans s2) R4
/-! ### while -/
def whileM : Nat → M Bool → M Fl → M Fl
  | 0, _, _ => fail
  | n + 1, t, b => bnd t fun k => if k = true then bnd b fun f => match f with
      | .nx => whileM n t b
      | .ct => whileM n t b
      | .bk => ret .nx
      | .rt r => ret (.rt r)
    else ret .nx
theorem SS.while {c : Expr} {body : List Stmt} {t : M Bool} {m : M Fl} {pos : Pos} (n : Nat) (hc : ST G call C c t) (hb : SSs G call C body m) : SS G call C (.While c body [] pos) (whileM n t m) := fun X ok =>
  ps_mono (ps_while ok.pass (hc X ok) (hb X ok)) fun D σ H h => by
    obtain ⟨g, F, e, R, h⟩ := h
    refine ⟨fun k σ H => ∃ F1 e1, Same F F1 ∧ Rel X.K g F1 e1 σ H ∧ (whileM k t m e1).post (FlOk X.K g F D) NoX, ⟨n, F, e, Same.refl F, R, h⟩, ?_⟩
    rintro k σ1 H1 ⟨F1, e1, s1, R1, h1⟩
    cases k with
    | zero => exact h1.elim
    | succ k =>
      refine ⟨g, F1, e1, R1, Out.post_imp (post_bnd.mp h1) ?_ (fun _ _ q => q)⟩
      intro b e2 q F2 H2 s2 R2
      cases b with
      | false =>
        rw [if_neg (by decide)] at q ⊢
        exact q _ F2 H2 (s1.trans s2) R2
      | true =>
        rw [if_pos rfl] at q ⊢
        refine ⟨fun σ3 H3 => ∃ F3 e3, Same F F3 ∧ Rel X.K g F3 e3 σ3 H3 ∧ (whileM k t m e3).post (FlOk X.K g F D) NoX, fun σ3 H3 h3 => ⟨k, Nat.lt_succ_self k, h3⟩, ?_⟩
        refine ⟨g, F2, e2, R2, Out.post_imp (post_bnd.mp q) ?_ (fun _ _ q => q)⟩
        intro f e3 q3
        cases f with
        | nx => exact fun σ3 F3 H3 s3 R3 => ⟨F3, e3, (s1.trans s2).trans s3, R3, q3⟩
        | ct => exact fun σ3 F3 H3 s3 R3 => ⟨F3, e3, (s1.trans s2).trans s3, R3, q3⟩
        | bk => exact fun σ3 F3 H3 s3 R3 => q3 σ3 F3 H3 ((s1.trans s2).trans s3) R3
        | rt r => exact fun v σ3 F3 H3 s3 R3 ok3 => q3 v σ3 F3 H3 ((s1.trans s2).trans s3) R3 ok3
/-! ### what is walked -/
/-- the i-th turn gives a value of F, or a new tuple -/
def YOk (K : PySem.W.Frag) (F : Hp) (ds : List D) (Y : Nat → Hp → V → Hp → Prop) : Prop := ∀ (i : Nat) (H : Hp) (x : V) (H' : Hp), Y i H x H' → ∃ d, ds[i]? = some d ∧
  ((H' = H ∧ Rep K F d x) ∨ ∃ T vs es, d = .pr es ∧ x = .ref T ∧ H T = none ∧ H' = upd H T (.tup vs) ∧ Reps K F es vs)
def SI (G : Prg) (call : Nat → FSem) (C : Cxt) (tg iter : Expr) (it : M (List D)) : Prop := ∀ X, XOk G call C X → ∃ wi : TI, PI X tg iter wi ∧ ∀ (g : Gh) (F : Hp) (e : En) (σ : St) (H : Hp) (R : It → Hp → Prop), Rel X.K g F e σ H →
  (it e).post (fun ds e' => ∀ (F' H' : Hp) (J : It) (GG : Hp → Prop) (Y : Nat → Hp → V → Hp → Prop), Same F F' → Rel X.K g F' e' σ H' → Walk J ds.length GG Y → (∀ H'', Same F' H'' → GG H'') → YOk X.K F' ds Y → R J H') NoX → wi σ H R
theorem YOk.mono {K : PySem.W.Frag} {F F' : Hp} {ds : List D} {Y : Nat → Hp → V → Hp → Prop} (s : Same F F') (h : YOk K F ds Y) : YOk K F' ds Y := by
  intro i H x H' y
  obtain ⟨d, d1, d2⟩ := h i H x H' y
  refine ⟨d, d1, ?_⟩
  rcases d2 with ⟨a, b⟩ | ⟨T, vs, es, a1, a2, a3, a4, a5⟩
  · exact .inl ⟨a, b.mono s⟩
  · exact .inr ⟨T, vs, es, a1, a2, a3, a4, a5.mono s⟩
/-- a turn's value as plain data -/
theorem YOk.step {K : PySem.W.Frag} {g : Gh} {F H H' : Hp} {e : En} {σ : St} {ds : List D} {Y : Nat → Hp → V → Hp → Prop} {i : Nat} {x : V} (h : YOk K F ds Y) (R : Rel K g F e σ H) (y : Y i H x H') :
    ∃ d F', ds[i]? = some d ∧ Same F F' ∧ Rel K g F' e σ H' ∧ Rep K F' d x ∧ ∀ b o, H b = some o → H' b = some o ∧ (F b = none → F' b = none) := by
  obtain ⟨d, d1, d2⟩ := h i H x H' y
  rcases d2 with ⟨rfl, b⟩ | ⟨T, vs, es, rfl, rfl, a3, rfl, a5⟩
  · exact ⟨d, F, d1, Same.refl F, R, b, fun b o h => ⟨h, id⟩⟩
  · have hF := R.freshF a3
    have s1 : Same F (upd F T (.tup vs)) := fun b w q => by rw [upd_ne]; exact q; intro z; subst z; rw [hF] at q; cases q
    refine ⟨_, _, d1, s1, (R.alloc (.tup vs) a3).freeze upd_same hF (R.noOwn a3) (.inl (R.fresh a3)), ?_, ?_⟩
    · rw [Rep]
      exact ⟨T, vs, rfl, SqT.of upd_same, a5.mono s1⟩
    · intro b o hb
      have hne : b ≠ T := by intro z; subst z; rw [a3] at hb; cases hb
      exact ⟨by rw [upd_ne hne]; exact hb, fun q => by rw [upd_ne hne]; exact q⟩
def forL : List D → (D → M Fl) → M Fl
  | [], _ => ret .nx
  | d :: ds, b => bnd (b d) fun f => match f with
    | .nx => forL ds b
    | .ct => forL ds b
    | .bk => ret .nx
    | .rt r => ret (.rt r)
def sFor (it : M (List D)) (tg : D → M Unit) (b : M Fl) : M Fl := bnd it fun ds => forL ds fun d => bnd (tg d) fun _ => b
theorem SS.for {tg iter : Expr} {body : List Stmt} {is : List Nat} {it : M (List D)} {f : D → M Unit} {m : M Fl} {pos : Pos} (hi : SI G call C tg iter it) (hg : SG G call C tg is f) (hb : SSs G call C body m)
    (hs : ∀ env x, foldedSetIterable iter env x = pure x := by intro _ _; rfl) : SS G call C (.For tg iter body [] pos) (sFor it f m) := fun X ok => by
  obtain ⟨wi, pi, ki⟩ := hi X ok
  refine ps_mono (ps_for ok.pass ok.calm pi (hg X ok) (hb X ok) (hs _)) fun D σ H h => ?_
  obtain ⟨g, F, e, R, h⟩ := h
  refine ki g F e σ H _ R (Out.post_imp (post_bnd.mp h) ?_ (fun _ _ q => q))
  intro ds e0 q F0 H0 J GG Y s0 R0 w hG hY
  refine for_it w (fun i σ H => ∃ F1 e1, Same F0 F1 ∧ Rel X.K g F1 e1 σ H ∧ (forL (ds.drop i) (fun d => bnd (f d) fun _ => m) e1).post (FlOk X.K g F D) NoX) ⟨F0, e0, Same.refl F0, R0, q⟩ ?_ ?_ ?_
  · rintro i σ1 H1 _ ⟨F1, e1, s1, R1, _⟩
    exact hG H1 fun a o z => R1.sub a o (s1 a o z)
  · rintro i x σ1 H1 H2 hi ⟨F1, e1, s1, R1, h1⟩ y
    obtain ⟨d, F2, d1, s2, R2, rp, _⟩ := (hY.mono s1).step R1 y
    have hd : ds.drop i = d :: ds.drop (i + 1) := by
      have hlt : i < ds.length := (List.getElem?_eq_some_iff.mp d1).1
      rw [List.drop_eq_getElem_cons hlt]
      have := (List.getElem?_eq_some_iff.mp d1).2
      rw [this]
    rw [hd] at h1
    have h2 := post_bnd.mp h1
    refine ⟨g, F2, e1, d, R2, rp, Out.post_imp (post_bnd.mp h2) ?_ (fun _ _ q => q)⟩
    intro _ e2 q2 σ3 F3 H3 s3 R3 _
    refine ⟨g, F3, e2, R3, Out.post_imp q2 ?_ (fun _ _ q => q)⟩
    intro fl e4 q4
    have sAll : Same F F3 := ((s0.trans s1).trans s2).trans s3
    cases fl with
    | nx => exact fun σ4 F4 H4 s4 R4 => ⟨F4, e4, ((s1.trans s2).trans s3).trans s4, R4, q4⟩
    | ct => exact fun σ4 F4 H4 s4 R4 => ⟨F4, e4, ((s1.trans s2).trans s3).trans s4, R4, q4⟩
    | bk => exact fun σ4 F4 H4 s4 R4 => q4 σ4 F4 H4 (sAll.trans s4) R4
    | rt r => exact fun v σ4 F4 H4 s4 R4 ok4 => q4 v σ4 F4 H4 (sAll.trans s4) R4 ok4
  · rintro σ1 H1 ⟨F1, e1, s1, R1, h1⟩
    rw [List.drop_length] at h1
    exact h1 σ1 F1 H1 (s0.trans s1) R1
end
end PV

namespace PV
open PySem PySem.Spec L2
/-! ### 10. comprehensions -/
def wipable (vs : List Nat) (e : En) : Bool := vs.all fun i => match e[i]? with
  | some .un => true
  | some (.fz _) => true
  | _ => false
def wipeE : List Nat → En → En
  | [], e => e
  | i :: r, e => (wipeE r e).set i .un
/-- the slots vs as they were in e0 -/
def backE (e0 : En) : List Nat → En → En
  | [], e => e
  | i :: r, e => match e0[i]? with
    | some s => (backE e0 r e).set i s
    | none => backE e0 r e
def tYesM : M Bool := ret true
def turnM (vs : List Nat) (f : D → M Unit) (c : M Bool) (m : M Rv) (d : D) : M (Option D) := fun e => if wipable vs e = true then
    match bnd (f d) (fun _ => bnd c fun b => if b = true then bnd (cVal m) fun y => ret (some y) else ret none) (wipeE vs e) with
    | .ok r e' => .ok r (backE e vs e')
    | _ => .stuck
  else .stuck
def compL (vs : List Nat) (f : D → M Unit) (c : M Bool) (m : M Rv) : List D → M (List D)
  | [] => ret []
  | d :: ds => bnd (turnM vs f c m d) fun r => bnd (compL vs f c m ds) fun ys => ret (match r with | some y => y :: ys | none => ys)
def cComp (vs : List Nat) (it : M (List D)) (f : D → M Unit) (c : M Bool) (m : M Rv) : M Rv := bnd it fun ds => bnd (compL vs f c m ds) fun ys => if ys.length ≤ sizeLine then ret (.o (.lst ys)) else fail
theorem wipeE_length : ∀ (vs : List Nat) (e : En), (wipeE vs e).length = e.length
  | [], e => rfl
  | i :: r, e => by simp [wipeE, wipeE_length r e]
theorem wipeE_get : ∀ (vs : List Nat) (e : En) (j : Nat), (wipeE vs e)[j]? = if j ∈ vs ∧ j < e.length then some .un else e[j]?
  | [], e, j => by simp [wipeE]
  | i :: r, e, j => by
    rw [wipeE, List.getElem?_set, wipeE_length, wipeE_get r e j]
    by_cases z : i = j
    · subst z
      by_cases h : i < e.length
      · simp [h]
      · simp [h]
    · have z' : j ≠ i := fun q => z q.symm
      simp [z, z']
theorem wipe_get : ∀ (vs : List Nat) (σ : L2.St) (j : Nat), (wipe σ vs)[j]? = if j ∈ vs ∧ j < σ.length then some none else σ[j]?
  | [], e, j => by simp [wipe]
  | i :: r, e, j => by
    rw [wipe, List.getElem?_set, wipe_length, wipe_get r e j]
    by_cases z : i = j
    · subst z
      by_cases h : i < e.length
      · simp [h]
      · simp [h]
    · have z' : j ≠ i := fun q => z q.symm
      simp [z, z']
theorem backE_length (e0 : En) : ∀ (vs : List Nat) (e : En), (backE e0 vs e).length = e.length
  | [], e => rfl
  | i :: r, e => by
    unfold backE
    split
    · simp [backE_length e0 r e]
    · exact backE_length e0 r e
theorem backE_get (e0 : En) : ∀ (vs : List Nat) (e : En) (j : Nat), e.length = e0.length → (backE e0 vs e)[j]? = if j ∈ vs then e0[j]? else e[j]?
  | [], e, j, h => by simp [backE]
  | i :: r, e, j, h => by
    unfold backE
    cases hi : e0[i]? with
    | none =>
      simp only
      rw [backE_get e0 r e j h]
      by_cases z : j = i
      · subst z
        have hl : e0.length ≤ j := List.getElem?_eq_none_iff.mp hi
        have he : e[j]? = none := List.getElem?_eq_none_iff.mpr (by omega)
        simp [hi, he]
      · simp [z]
    | some s =>
      simp only
      rw [List.getElem?_set, backE_length, backE_get e0 r e j h]
      by_cases z : i = j
      · subst z
        have hl : i < e.length := by rw [h]; exact (List.getElem?_eq_some_iff.mp hi).1
        simp [hl, hi]
      · have z' : j ≠ i := fun q => z q.symm
        simp [z, z']
theorem wipe_agree {σ σ' : L2.St} {vs : List Nat} (hl : σ'.length = σ.length) (h : ∀ i, i ∉ vs → σ'[i]? = σ[i]?) : wipe σ' vs = wipe σ vs := by
  apply List.ext_getElem?
  intro j
  rw [wipe_get, wipe_get, hl]
  by_cases z : j ∈ vs ∧ j < σ.length
  · rw [if_pos z, if_pos z]
  · rw [if_neg z, if_neg z]
    by_cases q : j ∈ vs
    · have : σ.length ≤ j := by
        rcases Nat.lt_or_ge j σ.length with h1 | h1
        · exact absurd ⟨q, h1⟩ z
        · exact h1
      rw [List.getElem?_eq_none_iff.mpr this, List.getElem?_eq_none_iff.mpr (by omega)]
    · exact h j q
section
variable {K : PySem.W.Frag} {g : Gh} {F F' H H' : Hp} {e e' : En} {σ σ' : L2.St} {vs : List Nat}
theorem wip_pin (h : wipable vs e = true) {i : Nat} (hi : i ∈ vs) : ∃ s, e[i]? = some s ∧ s.pin = false ∧ (s = .un ∨ ∃ d, s = .fz d) := by
  have q := List.all_eq_true.mp h i hi
  split at q
  · rename_i z; exact ⟨_, z, rfl, .inl rfl⟩
  · rename_i d z; exact ⟨_, z, rfl, .inr ⟨d, rfl⟩⟩
  · cases q
theorem wip_noP (R : Rel K g F e σ H) (h : wipable vs e = true) {i : Nat} (hi : i ∈ vs) (a : Addr) : ¬ g.P i a := by
  intro q
  obtain ⟨_, s, s1, s2⟩ := R.pin i a q
  obtain ⟨t, t1, t2, _⟩ := wip_pin h hi
  rw [s1] at t1; cases t1
  rw [s2] at t2; cases t2
theorem Rel.wipe (R : Rel K g F e σ H) (h : wipable vs e = true) : Rel K g F (wipeE vs e) (L2.wipe σ vs) H := by
  refine R.weak (wipeE_length vs e) (wipe_length σ vs) ?_
  intro i s v h1 h2
  rw [wipeE_get] at h1
  rw [wipe_get] at h2
  by_cases z : i ∈ vs
  · obtain ⟨t, t1, t2, _⟩ := wip_pin h z
    have hl : i < e.length := (List.getElem?_eq_some_iff.mp t1).1
    rw [if_pos ⟨z, hl⟩] at h1
    cases h1
    exact .inl ⟨rfl, wip_noP R h z⟩
  · rw [if_neg (fun q => z q.1)] at h1 h2
    exact .inr (.inl ⟨h1, h2⟩)
theorem Rel.back (R : Rel K g F e σ H) (h : wipable vs e = true) (R' : Rel K (g.at F H e σ) F' e' σ' H') (s : Same F F') (ha : ∀ i, i ∉ vs → σ'[i]? = σ[i]?) (hs : σ'.length = σ.length) :
    Rel K (g.at F H e σ) F' (backE e vs e') σ H' := by
  have hl : e'.length = e.length := by rw [R'.len, R.len, hs]
  refine R'.weak (backE_length e vs e') hs.symm ?_
  intro i t v h1 h2
  rw [backE_get e vs e' i hl] at h1
  by_cases z : i ∈ vs
  · rw [if_pos z] at h1
    obtain ⟨u, u1, u2, u3⟩ := wip_pin h z
    rw [h1] at u1; cases u1
    have np : ∀ a, ¬ (g.at F H e σ).P i a := wip_noP R h z
    rcases u3 with rfl | ⟨d, rfl⟩
    · exact .inl ⟨rfl, np⟩
    · obtain ⟨x, x1, x2⟩ := R.slot i _ v h1 h2
      exact .inr (.inr ⟨d, x, rfl, x1, x2.mono s, np⟩)
  · rw [if_neg z] at h1
    rw [← ha i z] at h2
    exact .inr (.inl ⟨h1, h2⟩)
end
/-! ### the block's context -/
def blkStor (scope : Scope) (C' : Cxt) : Bool := flagged (fun y => locB scope y) C'.N C'.st
theorem XOk.blk {G : Prg} {call : Nat → FSem} {C C' : Cxt} {X : Cx} {scope : Scope} (ok : XOk G call C X) (hN : C'.N = C.N) (hsc : C'.sc = relS scope C.sc) (hchk : C'.chk = true) (hst : blkStor scope C' = true)
    (s : Shared) (H : Hp) (A : Addr) (cl : List (Str × Addr)) (fp : List Addr) : XOk G call C' (X.blk s H scope (compEnvC scope cl A X.env) fp) := by
  have esc : (compEnvC scope cl A X.env).scope = relS scope C.sc := by rw [← ok.sc]; rfl
  refine ⟨by rw [hN]; exact ok.N, by rw [hsc]; exact esc, ok.calm, hchk, ?_, PassesOwn.never, ok.room, fun i x h => ?_, ok.cons, ok.blt⟩
  · intro i x h1 h2
    have q := flagged_get hst h1 h2
    unfold locB at q
    have keep : ∀ {k : NameKind}, k ≠ .free → scope.names.lookup x = some k → (X.blk s H scope (compEnvC scope cl A X.env) fp).env.scope.names.lookup x = some k := by
      intro k hk hl
      show (compEnvC scope cl A X.env).scope.names.lookup x = some k
      rw [esc]
      exact lookup_relS_keep hk hl
    split at q
    · rename_i z
      exact ⟨.inl (keep (by decide) z), .inr (keep (by decide) z)⟩
    · rename_i z
      refine ⟨.inr (keep (by decide) z), .inl ?_⟩
      show (scope.names.lookup x == some .cell) = true
      rw [z]; rfl
    · cases q
  · obtain ⟨k, f, fd, ps, a, b, c, d, e⟩ := (ok.fns i x h).ex
    exact ⟨k, f, fd, ps, a, b, c, d, e⟩
/-! ### the reading -/
def RdTs (K : PySem.W.Frag) (m : M Bool) : TT := RdT K m
section
variable {G : Prg} {call : Nat → FSem} {C C' : Cxt}
theorem rdLc {K : PySem.W.Frag} {vs ts : List Nat} {it : M (List D)} {f : D → M Unit} {c : M Bool} {m : M Rv} {σ : L2.St} {H : Hp} {Q : VK} {wi : TI}
    (ki : ∀ (g : Gh) (F : Hp) (e : En) (σ : L2.St) (H : Hp) (R : It → Hp → Prop), Rel K g F e σ H →
      (it e).post (fun ds e' => ∀ (F' H' : Hp) (J : It) (GG : Hp → Prop) (Y : Nat → Hp → V → Hp → Prop), Same F F' → Rel K g F' e' σ H' → Walk J ds.length GG Y → (∀ H'', Same F' H'' → GG H'') → YOk K F' ds Y → R J H') NoX → wi σ H R)
    (hts : ∀ i, i ∈ ts → i ∈ vs) (h : RdE K (cComp vs it f c m) σ H Q) : tLc wi (RdG K ts f) (RdT K c) (RdE K m) vs σ H Q := by
  obtain ⟨g, F, e, R, h⟩ := h
  refine ki g F e σ H _ R (Out.post_imp (post_bnd.mp h) ?_ (fun _ _ q => q))
  intro ds e0 q F0 H0 J GG Y s0 R0 w hG hY Dd hD
  have hgD := R0.fresh hD
  have hFD := R0.freshF hD
  refine lc_it (Qd := fun H => Q (.ref Dd) H) w (fun i H => ∃ (F1 : Hp) (e1 : En) (acc : List V) (ads : List D), Same F0 F1 ∧ Rel K g F1 e1 σ H ∧ H Dd = some (.lst acc) ∧ F1 Dd = none ∧ NoOwn e1 σ Dd ∧ Reps K F1 ads acc ∧
      (compL vs f c m (ds.drop i) e1).post (fun ys e' => (ads ++ ys).length ≤ sizeLine ∧ ∀ (v : V) (F' H' : Hp), Same F F' → Rel K g F' e' σ H' → RvOk K g F' H' e' σ (.o (.lst (ads ++ ys))) v → Q v H') NoX) ?_ ?_ ?_ ?_
  · refine ⟨F0, e0, [], [], Same.refl F0, R0.alloc _ hD, upd_same, hFD, R0.noOwn hD, Reps.nil, ?_⟩
    rw [List.drop_zero]
    refine Out.post_imp (post_bnd.mp q) ?_ (fun _ _ q => q)
    intro ys e' q2
    by_cases z : ys.length ≤ sizeLine
    · rw [if_pos z] at q2
      exact ⟨z, q2⟩
    · rw [if_neg z] at q2; exact q2.elim
  · rintro i H1 _ ⟨F1, e1, acc, ads, s1, R1, _⟩
    exact hG H1 fun a o z => R1.sub a o (s1 a o z)
  · rintro i x H1 H2 hi ⟨F1, e1, acc, ads, s1, R1, hacc, hF1, hno, hreps, h1⟩ y
    obtain ⟨d, F2, d1, s2, R2, rp, keep⟩ := (hY.mono s1).step R1 y
    obtain ⟨k1, k2⟩ := keep Dd _ hacc
    have hF2 := k2 hF1
    have hd : ds.drop i = d :: ds.drop (i + 1) := by
      have hlt : i < ds.length := (List.getElem?_eq_some_iff.mp d1).1
      rw [List.drop_eq_getElem_cons hlt, (List.getElem?_eq_some_iff.mp d1).2]
    rw [hd] at h1
    have h2 := post_bnd.mp h1
    unfold turnM at h2
    by_cases hw : wipable vs e1 = true
    · rw [if_pos hw] at h2
      have RB := R2.rebase
      have RW := RB.wipe hw
      -- the outcome of the turn
      cases hm : bnd (f d) (fun _ => bnd c fun b => if b = true then bnd (cVal m) fun y => ret (some y) else ret none) (wipeE vs e1) with
      | stuck => rw [hm] at h2; exact h2.elim
      | exc x e' => rw [hm] at h2; exact h2.elim
      | ok r e4 =>
        rw [hm] at h2
        simp only at h2
        have h3 := post_bnd.mp h2
        have run : (bnd (f d) (fun _ => bnd c fun b => if b = true then bnd (cVal m) fun y => ret (some y) else ret none) (wipeE vs e1)).post (fun r' e' => r' = r ∧ e' = e4) NoX := by rw [hm]; exact ⟨rfl, rfl⟩
        refine ⟨g.at F2 H2 e1 σ, F2, wipeE vs e1, d, RW, rp, Out.post_imp (post_bnd.mp run) ?_ (fun _ _ q => q)⟩
        intro _ e3 q3 σ3 F3 H3 s3 R3 n3
        obtain ⟨hl3, hg3⟩ := n3
        have agr : ∀ i, i ∉ vs → σ3[i]? = σ[i]? := by
          intro i hi
          rw [hg3 i (fun z => hi (hts i z)), wipe_get, if_neg (fun z => hi z.1)]
        have hl : σ3.length = σ.length := by rw [hl3, wipe_length]
        have noL : ∀ {F' H' : Hp} {e' : En}, Rel K (g.at F2 H2 e1 σ) F' e' σ3 H' → NoOwn e' σ3 Dd := fun r => R2.noOwnLater r k1 hno
        refine ⟨?_, g.at F2 H2 e1 σ, F3, e3, R3, Out.post_imp (post_bnd.mp q3) ?_ (fun _ _ q => q)⟩
        · exact wipe_agree hl agr
        intro b e5 q5 F5 H5 s5 R5
        have fin : ∀ {F' H' : Hp} {e' : En}, Same F3 F' → Rel K (g.at F2 H2 e1 σ) F' e' σ3 H' → e' = e4 → H' Dd = some (.lst acc) ∧ F' Dd = none ∧ Rel K g F' (backE e1 vs e4) σ H' ∧ NoOwn (backE e1 vs e4) σ Dd := by
          intro F' H' e' s6 R6 he
          subst he
          obtain ⟨p1, p2⟩ := R2.stays R6 k1 hno
          have R7 := R2.back hw R6 (s3.trans s6) agr hl
          exact ⟨p1, p2 hF2, R2.unbase R7, R2.noOwnLater R7 k1 hno⟩
        cases b with
        | true =>
          rw [if_pos rfl] at q5 ⊢
          refine rdD ⟨g.at F2 H2 e1 σ, F5, e5, R5, Out.post_imp (post_bnd.mp q5) ?_ (fun _ _ q => q)⟩
          rintro yd e6 ⟨rfl, he⟩ v F6 H6 s6 R6 rep
          obtain ⟨p1, p2, p3, p4⟩ := fin (s5.trans s6) R6 he
          have tot : (ads ++ [yd]).length ≤ sizeLine := by
            cases hc : compL vs f c m (ds.drop (i + 1)) (backE e1 vs e4) with
            | stuck => rw [hc] at h3; exact h3.elim
            | exc x e' => rw [hc] at h3; exact h3.elim
            | ok ys e' =>
              rw [hc] at h3
              have := h3.1
              simp only [List.length_append, List.length_cons, List.length_nil] at this ⊢
              omega
          refine ⟨acc, p1, ?_, F6, backE e1 vs e4, acc ++ [v], ads ++ [yd], ((s1.trans s2).trans s3).trans (s5.trans s6), p3.other _ p1 p2 hgD p4, upd_same, p2, p4, ?_, ?_⟩
          · rw [← hreps.length]; simp only [List.length_append, List.length_cons, List.length_nil] at tot; omega
          · exact (hreps.mono ((s2.trans s3).trans (s5.trans s6))).append (Reps.one rep)
          · refine Out.post_imp h3 ?_ (fun _ _ q => q)
            rintro ys e7 ⟨w1, w2⟩
            rw [List.append_assoc]
            exact ⟨w1, w2⟩
        | false =>
          rw [if_neg (by decide)] at q5 ⊢
          obtain ⟨rfl, he⟩ := q5
          obtain ⟨p1, p2, p3, p4⟩ := fin s5 R5 he
          exact ⟨F5, backE e1 vs e4, acc, ads, ((s1.trans s2).trans s3).trans s5, p3, p1, p2, p4, hreps.mono ((s2.trans s3).trans s5), h3⟩
    · rw [if_neg hw] at h2; exact h2.elim
  · rintro H1 ⟨F1, e1, acc, ads, s1, R1, hacc, hF1, hno, hreps, h1⟩
    rw [List.drop_length] at h1
    obtain ⟨z1, z2⟩ := h1
    rw [List.append_nil] at z2
    exact z2 (.ref Dd) F1 H1 (s0.trans s1) R1 ⟨Dd, rfl, ⟨acc, hacc, hreps⟩, hF1, hgD, hno⟩
end
end PV

namespace PV
open PySem PySem.Spec L2
section
variable {G : Prg} {call : Nat → FSem} {C C' : Cxt}
def compOk (C C' : Cxt) (scope : Scope) (own : List (Str × Nat)) (ts : List Nat) : Bool :=
  decide (C'.N = C.N) && decide (C'.sc = relS scope C.sc) && C'.chk && blkStor scope C' && blkC C.N C.sc scope own && ts.all fun i => (own.map (·.2)).contains i
theorem compOk_of {scope : Scope} {own : List (Str × Nat)} {ts : List Nat} (h : compOk C C' scope own ts = true) :
    C'.N = C.N ∧ C'.sc = relS scope C.sc ∧ C'.chk = true ∧ blkStor scope C' = true ∧ blkC C.N C.sc scope own = true ∧ ∀ i, i ∈ ts → i ∈ own.map (·.2) := by
  unfold compOk at h
  simp only [Bool.and_eq_true, decide_eq_true_eq] at h
  obtain ⟨⟨⟨⟨⟨a, b⟩, c⟩, d⟩, e⟩, f⟩ := h
  refine ⟨a, b, c, d, e, fun i hi => ?_⟩
  have := List.all_eq_true.mp f i hi
  simpa using this
theorem rdYes {K : PySem.W.Frag} {σ : L2.St} {H : Hp} {Q : Bool → Hp → Prop} (h : RdT K tYesM σ H Q) : Q true H := by
  obtain ⟨g, F, e, R, h⟩ := h
  exact h F H (Same.refl F) R
theorem pts_mono {X : Cx} {e : List Expr} {t t' : TT} (h : PTs X e t) (k : ∀ σ H Q, t' σ H Q → t σ H Q) : PTs X e t' := ⟨fun pins s σ H Q I q => h.run pins s σ H Q I (k σ H Q q)⟩
theorem SE.comp {elt tg iter : Expr} {scope : Scope} {pos : Pos} {own : List (Str × Nat)} {ts : List Nat} {it : M (List D)} {f : D → M Unit} {m : M Rv} (hk : compOk C C' scope own ts = true) (hi : SI G call C tg iter it) (hg : SG G call C' tg ts f) (he : SE G call C' elt m)
    (hs : ∀ env x, foldedSetIterable iter env x = pure x := by intro _ _; rfl) : SE G call C (.ListComp elt [⟨tg, iter, [], 0⟩] scope pos) (cComp (own.map (·.2)) it f tYesM m) := fun X ok => by
  obtain ⟨h1, h2, h3, h4, h5, h6⟩ := compOk_of hk
  obtain ⟨wi, pi, ki⟩ := hi X ok
  refine pe_mono (pe_lc (g := RdG X.K ts f) (tt := RdT X.K tYesM) (te := RdE X.K m) (own := own) ok.calm ok.nd pi (by rw [ok.N, ok.sc]; exact blkOk_by h5) (fun s H A cl fp => hg _ (ok.blk h1 h2 h3 h4 s H A cl fp))
    (fun s H A cl fp => pts_mono pts_nil fun σ H Q h => rdYes h) (fun s H A cl fp => he _ (ok.blk h1 h2 h3 h4 s H A cl fp)) (hs _)) fun σ H Q h => rdLc ki h6 h
theorem SE.compIf {elt tg iter c : Expr} {scope : Scope} {pos : Pos} {own : List (Str × Nat)} {ts : List Nat} {it : M (List D)} {f : D → M Unit} {t : M Bool} {m : M Rv} (hk : compOk C C' scope own ts = true) (hi : SI G call C tg iter it) (hg : SG G call C' tg ts f) (hc : ST G call C' c t) (he : SE G call C' elt m)
    (hs : ∀ env x, foldedSetIterable iter env x = pure x := by intro _ _; rfl) : SE G call C (.ListComp elt [⟨tg, iter, [c], 0⟩] scope pos) (cComp (own.map (·.2)) it f t m) := fun X ok => by
  obtain ⟨h1, h2, h3, h4, h5, h6⟩ := compOk_of hk
  obtain ⟨wi, pi, ki⟩ := hi X ok
  refine pe_mono (pe_lc (g := RdG X.K ts f) (tt := RdT X.K t) (te := RdE X.K m) (own := own) ok.calm ok.nd pi (by rw [ok.N, ok.sc]; exact blkOk_by h5) (fun s H A cl fp => hg _ (ok.blk h1 h2 h3 h4 s H A cl fp))
    (fun s H A cl fp => pts_one (hc _ (ok.blk h1 h2 h3 h4 s H A cl fp))) (fun s H A cl fp => he _ (ok.blk h1 h2 h3 h4 s H A cl fp)) (hs _)) fun σ H Q h => rdLc ki h6 h
/-- y = [..], y a plain local on the same line -/
theorem SS.asgLc {i : Nat} {y : Str} {py : Pos} {elt tg iter : Expr} {scope : Scope} {pos spos : Pos} {own : List (Str × Nat)} {ts : List Nat} {it : M (List D)} {f : D → M Unit} {m : M Rv} (hk : compOk C C' scope own ts = true) (hi : SI G call C tg iter it) (hg : SG G call C' tg ts f) (he : SE G call C' elt m)
    (hN : C.N[i]? = some y) (hst : C.st[i]? = some true) (hy : C.sc.names.lookup y = some .local) (hkd : C.sc.kind = .function) (hl : (py.line == pos.line) = true) (ha : (scope.names.any fun (n, k) => n == y && (k == .local || k == .cell)) = false)
    (hs : ∀ env x, foldedSetIterable iter env x = pure x := by intro _ _; rfl) : SS G call C (.Assign [.Name y py] (.ListComp elt [⟨tg, iter, [], 0⟩] scope pos) spos) (sAsg i (cComp (own.map (·.2)) it f tYesM m)) := fun X ok => by
  obtain ⟨h1, h2, h3, h4, h5, h6⟩ := compOk_of hk
  obtain ⟨wi, pi, ki⟩ := hi X ok
  refine ps_mono (ps_setLc (i := i) (g := RdG X.K ts f) (tt := RdT X.K tYesM) (te := RdE X.K m) (own := own) ok.calm ok.nd (by rw [ok.N]; exact hN) (by rw [ok.sc]; exact hy) (sw_true (by rw [ok.sc]; exact hkd) (by rw [ok.sc]; exact hy) hl ha) pi (by rw [ok.N, ok.sc]; exact blkOk_by h5) (fun s H A cl fp => hg _ (ok.blk h1 h2 h3 h4 s H A cl fp))
    (fun s H A cl fp => pts_mono pts_nil fun σ H Q h => rdYes h) (fun s H A cl fp => he _ (ok.blk h1 h2 h3 h4 s H A cl fp)) (hs _)) fun D σ H h => ?_
  obtain ⟨g, F, e, R, h⟩ := h
  refine rdLc ki h6 ⟨g, F, e, R, Out.post_imp (post_bnd.mp h) ?_ (fun _ _ q => q)⟩
  intro r e' q v F' H' s1 R1 ok1
  obtain ⟨e2, F2, q2, s2, R2⟩ := asg_post R1 ok1 q
  exact q2 _ F2 H' (s1.trans s2) R2
theorem SS.asgLcIf {i : Nat} {y : Str} {py : Pos} {elt tg iter c : Expr} {scope : Scope} {pos spos : Pos} {own : List (Str × Nat)} {ts : List Nat} {it : M (List D)} {f : D → M Unit} {t : M Bool} {m : M Rv} (hk : compOk C C' scope own ts = true) (hi : SI G call C tg iter it) (hg : SG G call C' tg ts f) (hc : ST G call C' c t) (he : SE G call C' elt m)
    (hN : C.N[i]? = some y) (hst : C.st[i]? = some true) (hy : C.sc.names.lookup y = some .local) (hkd : C.sc.kind = .function) (hl : (py.line == pos.line) = true) (ha : (scope.names.any fun (n, k) => n == y && (k == .local || k == .cell)) = false)
    (hs : ∀ env x, foldedSetIterable iter env x = pure x := by intro _ _; rfl) : SS G call C (.Assign [.Name y py] (.ListComp elt [⟨tg, iter, [c], 0⟩] scope pos) spos) (sAsg i (cComp (own.map (·.2)) it f t m)) := fun X ok => by
  obtain ⟨h1, h2, h3, h4, h5, h6⟩ := compOk_of hk
  obtain ⟨wi, pi, ki⟩ := hi X ok
  refine ps_mono (ps_setLc (i := i) (g := RdG X.K ts f) (tt := RdT X.K t) (te := RdE X.K m) (own := own) ok.calm ok.nd (by rw [ok.N]; exact hN) (by rw [ok.sc]; exact hy) (sw_true (by rw [ok.sc]; exact hkd) (by rw [ok.sc]; exact hy) hl ha) pi (by rw [ok.N, ok.sc]; exact blkOk_by h5) (fun s H A cl fp => hg _ (ok.blk h1 h2 h3 h4 s H A cl fp))
    (fun s H A cl fp => pts_one (hc _ (ok.blk h1 h2 h3 h4 s H A cl fp))) (fun s H A cl fp => he _ (ok.blk h1 h2 h3 h4 s H A cl fp)) (hs _)) fun D σ H h => ?_
  obtain ⟨g, F, e, R, h⟩ := h
  refine rdLc ki h6 ⟨g, F, e, R, Out.post_imp (post_bnd.mp h) ?_ (fun _ _ q => q)⟩
  intro r e' q v F' H' s1 R1 ok1
  obtain ⟨e2, F2, q2, s2, R2⟩ := asg_post R1 ok1 q
  exact q2 _ F2 H' (s1.trans s2) R2
/-! ### iterables -/
theorem pi_or {X : Cx} {tg it : Expr} {w1 w2 : TI} (h1 : PI X tg it w1) (h2 : PI X tg it w2) : PI X tg it (fun σ H R => w1 σ H R ∨ w2 σ H R) := ⟨fun pins s σ H R I q => q.elim (h1.run pins s σ H R I) (h2.run pins s σ H R I)⟩
/-- the signs of a text -/
def signsD (z : Str) : List D := z.cps.toList.map fun c => .str ⟨#[c]⟩
def seqD : D → M (List D)
  | .str z => ret (signsD z)
  | .lst ds => ret ds
  | .scr ds => ret ds
  | .tup ds => ret ds
  | _ => fail
def cSeq (m : M Rv) : M (List D) := bnd (cVal m) seqD
theorem SI.seq {tg it : Expr} {m : M Rv} (he : SE G call C it m) : SI G call C tg it (cSeq m) := fun X ok => by
  refine ⟨_, pi_or (pi_or (pi_list (he X ok)) (pi_tup (he X ok))) (pi_str (he X ok)), ?_⟩
  intro g F e σ H R hR h
  have h1 := post_bnd.mp h
  -- which kind of thing it is
  cases hm : cVal m e with
  | stuck => rw [hm] at h1; exact h1.elim
  | exc x e' => rw [hm] at h1; exact h1.elim
  | ok d e' =>
    have run : (cVal m e).post (fun d0 e0 => d0 = d ∧ e0 = e') NoX := by rw [hm]; exact ⟨rfl, rfl⟩
    rw [hm] at h1
    cases d with
    | lst ds =>
      refine .inl (.inl (rdD ⟨g, F, e, hR, Out.post_imp run ?_ (fun _ _ q => q)⟩))
      rintro _ _ ⟨rfl, rfl⟩ v F1 H1 s1 R1 rep
      rw [Rep] at rep
      obtain ⟨a, vs, rfl, q1, q2⟩ := rep
      have hq : SqL X.K H1 a vs := SqL.of (R1.sub _ _ q1)
      refine ⟨a, rfl, ⟨vs, hq⟩, h1 F1 H1 _ _ _ s1 R1 (by rw [q2.length]; exact walk_list (K := X.K) (a := a) (xs := vs)) (fun H'' s => SqL.of (s _ _ q1)) ?_⟩
      rintro i H2 x H3 ⟨rfl, hx⟩
      obtain ⟨d, d1, d2⟩ := q2.get' hx
      exact ⟨d, d1, .inl ⟨rfl, d2⟩⟩
    | scr ds =>
      refine .inl (.inl (rdD ⟨g, F, e, hR, Out.post_imp run ?_ (fun _ _ q => q)⟩))
      rintro _ _ ⟨rfl, rfl⟩ v F1 H1 s1 R1 rep
      rw [Rep] at rep
      obtain ⟨a, vs, rfl, q1, q2⟩ := rep
      have hq : SqL X.K H1 a vs := sqL_mono R1.sub q1
      refine ⟨a, rfl, ⟨vs, hq⟩, h1 F1 H1 _ _ _ s1 R1 (by rw [q2.length]; exact walk_list (K := X.K) (a := a) (xs := vs)) (fun H'' s => sqL_mono s q1) ?_⟩
      rintro i H2 x H3 ⟨rfl, hx⟩
      obtain ⟨d, d1, d2⟩ := q2.get' hx
      exact ⟨d, d1, .inl ⟨rfl, d2⟩⟩
    | tup ds =>
      refine .inl (.inr (rdD ⟨g, F, e, hR, Out.post_imp run ?_ (fun _ _ q => q)⟩))
      rintro _ _ ⟨rfl, rfl⟩ v F1 H1 s1 R1 rep
      rw [Rep] at rep
      obtain ⟨a, vs, rfl, q1, q2⟩ := rep
      have hq : SqT X.K H1 a vs := sqT_mono R1.sub q1.sq
      refine ⟨a, rfl, ⟨vs, hq⟩, h1 F1 H1 _ _ _ s1 R1 (by rw [q2.length]; exact walk_tup (K := X.K) (a := a) (xs := vs)) (fun H'' s => sqT_mono s q1.sq) ?_⟩
      rintro i H2 x H3 ⟨rfl, hx⟩
      obtain ⟨d, d1, d2⟩ := q2.get' hx
      exact ⟨d, d1, .inl ⟨rfl, d2⟩⟩
    | str z =>
      refine .inr (rdD ⟨g, F, e, hR, Out.post_imp run ?_ (fun _ _ q => q)⟩)
      rintro _ _ ⟨rfl, rfl⟩ v F1 H1 s1 R1 rep
      rw [Rep] at rep
      subst rep
      refine ⟨z, rfl, h1 F1 H1 _ _ _ s1 R1 (by
        have e : (signsD z).length = z.cps.size := by unfold signsD; rw [List.length_map, Array.length_toList]
        rw [e]; exact walk_str) (fun H'' s => trivial) ?_⟩
      rintro i H2 x H3 ⟨rfl, c, hc, rfl⟩
      refine ⟨.str ⟨#[c]⟩, ?_, .inl ⟨rfl, by rw [Rep]⟩⟩
      unfold signsD
      rw [List.getElem?_map, Array.getElem?_toList, hc]; rfl
    | _ => exact h1.elim
/-- lo, lo + 1, .. (n of them) -/
def rangeD (lo : Int) (n : Nat) : List D := (List.range n).map fun i => .int (lo + (i : Nat))
def small62 (i : Int) : Bool := decide (-(2 ^ 62) ≤ i) && decide (i < 2 ^ 62)
def cRange1 (m : M Rv) : M (List D) := bnd (cVal m) fun d => match d with
  | .int j => if small62 j = true then ret (rangeD 0 j.toNat) else fail
  | _ => fail
def cRange2 (ma mb : M Rv) : M (List D) := bnd (cVal ma) fun a => bnd (cVal mb) fun b => match a, b with
  | .int i, .int j => if (small62 i && small62 j) = true then ret (rangeD i (j - i).toNat) else fail
  | _, _ => fail
theorem small62_of {i : Int} (h : small62 i = true) : -(2 ^ 62) ≤ i ∧ i < 2 ^ 62 := by
  unfold small62 at h; simp only [Bool.and_eq_true, decide_eq_true_eq] at h; exact h
theorem rangeD_length (lo : Int) (n : Nat) : (rangeD lo n).length = n := by simp [rangeD]
theorem yok_range {K : PySem.W.Frag} {F : Hp} {lo : Int} {n : Nat} : YOk K F (rangeD lo n) (fun i H x H' => i < n ∧ YFn (fun i => .int (lo + (i : Nat))) i H x H') := by
  rintro i H x H' ⟨hi, rfl, rfl⟩
  refine ⟨.int (lo + (i : Nat)), by simp [rangeD, hi], .inl ⟨rfl, by rw [Rep]⟩⟩
theorem SI.range1 {tg a : Expr} {m : M Rv} {p pos : Pos} {i j : Nat} (hg : C.gl[j]? = some ("range" : Str)) (hb : G.blt[i]? = some ("range" : Str)) (he : SE G call C a m) (hs : ∀ env, starEach [a] env = [(false, eval a env)] := by intro _; rfl) :
    SI G call C tg (.Call (.Name "range" p) [a] [] pos) (cRange1 m) := fun X ok => by
  refine ⟨_, pi_range1 (ok.gl hg).1 (ok.blt i _ hb) (pa_cons (he X ok) pa_nil (by rw [hs]; rfl)) (hs _), ?_⟩
  intro g F e σ H R hR h
  refine rdD ⟨g, F, e, hR, Out.post_imp (post_bnd.mp h) ?_ (fun _ _ q => q)⟩
  intro d e' q v F1 H1 s1 R1 rep
  cases d with
  | int k =>
    rw [Rep] at rep; subst rep
    simp only at q
    by_cases z : small62 k = true
    · rw [if_pos z] at q
      obtain ⟨z1, z2⟩ := small62_of z
      refine ⟨k, rfl, z1, z2, ?_⟩
      refine q F1 H1 _ (fun _ => True) _ s1 R1 ?_ (fun _ _ => trivial) yok_range
      rw [rangeD_length]
      exact (walk_range (lo := 0) (n := k.toNat)).mono (fun _ _ => trivial) fun i H x H' hi _ y => ⟨hi, y⟩
    · rw [if_neg z] at q; exact q.elim
  | _ => exact q.elim
theorem SI.range2 {tg a b : Expr} {ma mb : M Rv} {p pos : Pos} {i j : Nat} (hg : C.gl[j]? = some ("range" : Str)) (hb : G.blt[i]? = some ("range" : Str)) (ha : SE G call C a ma) (hbb : SE G call C b mb)
    (hs : ∀ env, starEach [a, b] env = [(false, eval a env), (false, eval b env)] := by intro _; rfl) (hs1 : ∀ env, starEach [b] env = [(false, eval b env)] := by intro _; rfl) :
    SI G call C tg (.Call (.Name "range" p) [a, b] [] pos) (cRange2 ma mb) := fun X ok => by
  refine ⟨_, pi_range2 (ok.gl hg).1 (ok.blt i _ hb) (pa_cons (ha X ok) (pa_cons (hbb X ok) pa_nil (by rw [hs1]; rfl)) (by rw [hs, hs1])) (hs _) (hs1 _), ?_⟩
  intro g F e σ H R hR h
  refine rdD ⟨g, F, e, hR, Out.post_imp (post_bnd.mp h) ?_ (fun _ _ q => q)⟩
  intro d e' q v F1 H1 s1 R1 rep
  refine rdD ⟨g, F1, e', R1, Out.post_imp (post_bnd.mp q) ?_ (fun _ _ q => q)⟩
  intro d2 e2 q v2 F2 H2 s2 R2 rep2
  have rep' := rep.mono s2
  cases d with
  | int k =>
    cases d2 with
    | int l =>
      rw [Rep] at rep' rep2; subst rep'; subst rep2
      simp only at q
      by_cases z : (small62 k && small62 l) = true
      · rw [if_pos z] at q
        simp only [Bool.and_eq_true] at z
        obtain ⟨z1, z2⟩ := small62_of z.1
        obtain ⟨z3, z4⟩ := small62_of z.2
        refine ⟨k, l, rfl, ⟨z1, z2, z3, z4⟩, ?_⟩
        refine q F2 H2 _ (fun _ => True) _ (s1.trans s2) R2 ?_ (fun _ _ => trivial) yok_range
        rw [rangeD_length]
        exact (walk_range (lo := k) (n := (l - k).toNat)).mono (fun _ _ => trivial) fun i H x H' hi _ y => ⟨hi, y⟩
      · rw [if_neg z] at q; exact q.elim
    | _ => exact q.elim
  | _ => exact q.elim
/-- a text, sign by sign -/
def cSigns (m : M Rv) : M (List D) := bnd (cVal m) fun d => match d with
  | .str s => ret (signsD s)
  | _ => fail
theorem SI.signs {tg it : Expr} {m : M Rv} (he : SE G call C it m) : SI G call C tg it (cSigns m) := fun X ok => by
  refine ⟨_, pi_str (he X ok), ?_⟩
  intro g F e σ H R hR h
  refine rdD ⟨g, F, e, hR, Out.post_imp (post_bnd.mp h) ?_ (fun _ _ q => q)⟩
  intro d e' q v F1 H1 s1 R1 rep
  cases d with
  | str z =>
    rw [Rep] at rep; subst rep
    refine ⟨z, rfl, q F1 H1 _ (fun _ => True) _ s1 R1 (by rw [signsD, List.length_map, Array.length_toList]; exact walk_str) (fun _ _ => trivial) ?_⟩
    rintro i H2 x H3 ⟨rfl, c, hc, rfl⟩
    exact ⟨.str ⟨#[c]⟩, by simp [signsD, hc], .inl ⟨rfl, by rw [Rep]⟩⟩
  | _ => exact q.elim
/-- zip of two lists or two tuples -/
def zipD : List D → List D → List D
  | a :: as, b :: bs => .pr [a, b] :: zipD as bs
  | _, _ => []
theorem zipD_length : ∀ as bs : List D, (zipD as bs).length = min as.length bs.length
  | [], bs => by simp [zipD]
  | a :: as, [] => by simp [zipD]
  | a :: as, b :: bs => by simp only [zipD, List.length_cons, zipD_length as bs]; omega
theorem zipD_get : ∀ {as bs : List D} {i : Nat} {a b : D}, as[i]? = some a → bs[i]? = some b → (zipD as bs)[i]? = some (.pr [a, b])
  | [], _, _, _, _, h, _ => by simp at h
  | _ :: _, [], _, _, _, _, h => by simp at h
  | a :: as, b :: bs, 0, _, _, h1, h2 => by simp at h1 h2; subst h1; subst h2; rfl
  | a :: as, b :: bs, i + 1, _, _, h1, h2 => by simp only [zipD, List.getElem?_cons_succ]; exact zipD_get (by simpa using h1) (by simpa using h2)
end
end PV

namespace PV
open PySem PySem.Spec L2
/-! ### 11. operations by values -/
def addD : D → D → SR
  | .int i, .int j => .d (.int (i + j))
  | .str s, .str t => if s.length + t.length ≤ sizeLine then .d (.str (s ++ t)) else .no
  | .tup xs, .tup ys => if xs.length + ys.length ≤ sizeLine then .nt (xs ++ ys) else .no
  | .lst xs, .lst ys => if xs.length + ys.length ≤ sizeLine then .ob (.lst (xs ++ ys)) else .no
  | _, _ => .no
def subD : D → D → SR
  | .int i, .int j => .d (.int (i - j))
  | _, _ => .no
def mulOk (i : Int) : Bool := decide (-(2 ^ 64) < i) && decide (i < 2 ^ 64)
def mulD : D → D → SR
  | .int i, .int j => if (mulOk i || mulOk j) = true then .d (.int (i * j)) else .no
  | .lst xs, .int k => if (decide (-(2 ^ 63) ≤ k) && decide (k < 2 ^ 63) && decide (xs.length * k.toNat ≤ sizeLine)) = true then .ob (.lst (List.replicate k.toNat xs).flatten) else .no
  | .tup xs, .int k => if (decide (0 ≤ k) && decide (k ≤ 1000) && decide (xs.length ≤ 1000)) = true then .nt (List.replicate k.toNat xs).flatten else .no
  | _, _ => .no
def modD : D → D → SR
  | .int i, .int j => if 0 < j then .d (.int (i % j)) else .no
  | _, _ => .no
def fdivD : D → D → SR
  | .int i, .int j => if 0 < j ∧ j < 1073741824 then .d (.int (i / j)) else .no
  | _, _ => .no
def powD : D → D → SR
  | .int i, .int j => if 0 ≤ j ∧ j ≤ 1000000 ∧ i.natAbs < 2 ^ 64 then .d (.int (i ^ j.toNat)) else .no
  | _, _ => .no
section
variable {K : PySem.W.Frag} {F H : Hp} {Q : VK}
theorem SRok.int {i : Int} (h : SRok K F H Q (.d (.int i))) : Q (.int i) H := h _ (by rw [Rep])
theorem SRok.bl {i : Bool} (h : SRok K F H Q (.d (.bl i))) : Q (.bl i) H := h _ (by rw [Rep])
theorem SRok.str {i : Str} (h : SRok K F H Q (.d (.str i))) : Q (.str i) H := h _ (by rw [Rep])
theorem SRok.non (h : SRok K F H Q (.d .non)) : Q .non H := h _ (by rw [Rep])
theorem SRok.lst {ds : List D} {p : Addr} {vs : List V} (h : SRok K F H Q (.ob (.lst ds))) (hp : H p = none) (hr : Reps K F ds vs) : Q (.ref p) (upd H p (.lst vs)) := h p _ hp ⟨vs, rfl, hr⟩
end
def rAddX (X : Cx) : R2 := fun x y H Q => ((rI0 (fun i j => .int (i + j))) x y H Q ∨ (∃ i j, x = .str i ∧ y = .str j ∧ i.length + j.length ≤ sizeLine ∧ Q (.str (i ++ j)) H)) ∨ (rCatN X.K x y H Q ∨ rCat x y H Q)
section
variable {G : Prg} {call : Nat → FSem} {C : Cxt}
theorem SE.add {a b : Expr} {ma mb : M Rv} {pos : Pos} (ha : SE G call C a ma) (hb : SE G call C b mb) : SE G call C (.BinOp a .Add b pos) (c2 addD ma mb) := by
  refine SE.bin (r := rAddX) (fun X ok => (op_add.or op_add_str).or (op_catN.or op_cat)) ?_ ha hb
  intro X F H d d' x y Q s hx hy h
  unfold addD at h
  split at h
  · obtain rfl := hx.int; obtain rfl := hy.int; exact .inl (.inl ⟨_, _, rfl, rfl, h.int⟩)
  · split at h
    · obtain rfl := hx.str; obtain rfl := hy.str; exact .inl (.inr ⟨_, _, rfl, rfl, by assumption, h.str⟩)
    · exact h.elim
  · split at h
    · obtain ⟨a1, v1, rfl, q1, q1', r1⟩ := hx.tup s
      obtain ⟨a2, v2, rfl, q2, q2', r2⟩ := hy.tup s
      refine .inr (.inl ⟨a1, a2, v1, v2, rfl, rfl, q1', q2', by rw [← r1.length, ← r2.length]; assumption, ?_, ?_, ?_⟩)
      · intro z; subst z
        have e1 := List.length_eq_zero_iff.mp r1.length
        subst e1
        rw [List.nil_append] at h
        exact h.1 _ hy.tupRep
      · intro _ z; subst z
        have e1 := List.length_eq_zero_iff.mp r2.length
        subst e1
        rw [List.append_nil] at h
        exact h.1 _ hx.tupRep
      · intro _ _
        exact h.2 _ (r1.append r2)
    · exact h.elim
  · split at h
    · obtain ⟨a1, v1, rfl, q1, r1⟩ := hx.lst s
      obtain ⟨a2, v2, rfl, q2, r2⟩ := hy.lst s
      exact .inr (.inr ⟨a1, a2, v1, v2, rfl, rfl, q1, q2, by rw [← r1.length, ← r2.length]; assumption, fun p hp => h.lst hp (r1.append r2)⟩)
    · exact h.elim
  · exact h.elim
theorem SE.sub {a b : Expr} {ma mb : M Rv} {pos : Pos} (ha : SE G call C a ma) (hb : SE G call C b mb) : SE G call C (.BinOp a .Sub b pos) (c2 subD ma mb) := by
  refine SE.bin (r := fun _ => rI0 fun i j => .int (i - j)) (fun X ok => op_sub) ?_ ha hb
  intro X F H d d' x y Q s hx hy h
  unfold subD at h
  split at h
  · obtain rfl := hx.int; obtain rfl := hy.int; exact ⟨_, _, rfl, rfl, h.int⟩
  · exact h.elim
theorem mulOk_of {i : Int} (h : mulOk i = true) : -(2 ^ 64) < i ∧ i < 2 ^ 64 := by
  unfold mulOk at h; simp only [Bool.and_eq_true, decide_eq_true_eq] at h; exact h
theorem SE.mul {a b : Expr} {ma mb : M Rv} {pos : Pos} (ha : SE G call C a ma) (hb : SE G call C b mb) : SE G call C (.BinOp a .Mult b pos) (c2 mulD ma mb) := by
  refine SE.bin (r := fun X x y H Q => (rI CMul (fun i j => .int (i * j)) x y H Q ∨ rRep x y H Q) ∨ rRepN X.K x y H Q) (fun X ok => (op_mul.or op_rep).or op_repN) ?_ ha hb
  intro X F H d d' x y Q s hx hy h
  unfold mulD at h
  split at h
  · split at h
    · rename_i z
      obtain rfl := hx.int; obtain rfl := hy.int
      refine .inl (.inl ⟨_, _, rfl, rfl, ?_, h.int⟩)
      simp only [Bool.or_eq_true] at z
      exact z.imp mulOk_of mulOk_of
    · exact h.elim
  · split at h
    · rename_i z
      simp only [Bool.and_eq_true, decide_eq_true_eq] at z
      obtain ⟨⟨z1, z2⟩, z3⟩ := z
      obtain ⟨a1, v1, rfl, q1, r1⟩ := hx.lst s
      obtain rfl := hy.int
      exact .inl (.inr ⟨a1, _, v1, rfl, rfl, q1, z1, z2, by rw [← r1.length]; exact z3, fun p hp => h.lst hp (r1.rep _)⟩)
    · exact h.elim
  · rename_i xs k
    split at h
    · rename_i z
      simp only [Bool.and_eq_true, decide_eq_true_eq] at z
      obtain ⟨⟨z1, z2⟩, z3⟩ := z
      obtain ⟨a1, v1, rfl, q0, q1, r1⟩ := hx.tup s
      obtain rfl := hy.int
      refine .inr ⟨a1, _, v1, rfl, rfl, q1, z1, z2, by rw [← r1.length]; exact z3, ?_, ?_⟩
      · intro e
        have e1 : (List.replicate k.toNat xs).flatten = xs := by
          rcases e with e | e
          · have hl := r1.length
            rw [e] at hl
            have : xs = [] := List.eq_nil_of_length_eq_zero (by simpa using hl)
            subst this; simp
          · subst e; show (List.replicate 1 xs).flatten = xs; simp
        rw [e1] at h
        exact h.1 _ hx.tupRep
      · intro _ _
        exact h.2 _ (r1.rep _)
    · exact h.elim
  · exact h.elim
theorem SE.mod {a b : Expr} {ma mb : M Rv} {pos : Pos} (ha : SE G call C a ma) (hb : SE G call C b mb) : SE G call C (.BinOp a .Mod b pos) (c2 modD ma mb) := by
  refine SE.bin (r := fun X => rI (fun _ j => 0 < j) fun i j => .int (i % j)) (fun X ok => op_mod) ?_ ha hb
  intro X F H d d' x y Q s hx hy h
  unfold modD at h
  split at h
  · split at h
    · obtain rfl := hx.int; obtain rfl := hy.int; exact ⟨_, _, rfl, rfl, by assumption, h.int⟩
    · exact h.elim
  · exact h.elim
theorem SE.fdiv {a b : Expr} {ma mb : M Rv} {pos : Pos} (ha : SE G call C a ma) (hb : SE G call C b mb) : SE G call C (.BinOp a .FloorDiv b pos) (c2 fdivD ma mb) := by
  refine SE.bin (r := fun X => rI CDiv fun i j => .int (i / j)) (fun X ok => op_fdiv) ?_ ha hb
  intro X F H d d' x y Q s hx hy h
  unfold fdivD at h
  split at h
  · split at h
    · obtain rfl := hx.int; obtain rfl := hy.int; exact ⟨_, _, rfl, rfl, by assumption, h.int⟩
    · exact h.elim
  · exact h.elim
theorem SE.pow {a b : Expr} {ma mb : M Rv} {pos : Pos} (ha : SE G call C a ma) (hb : SE G call C b mb) : SE G call C (.BinOp a .Pow b pos) (c2 powD ma mb) := by
  refine SE.bin (r := fun X => rI CPow fun i j => .int (i ^ j.toNat)) (fun X ok => op_pow) ?_ ha hb
  intro X F H d d' x y Q s hx hy h
  unfold powD at h
  split at h
  · split at h
    · obtain rfl := hx.int; obtain rfl := hy.int; exact ⟨_, _, rfl, rfl, by assumption, h.int⟩
    · exact h.elim
  · exact h.elim
/-- -a -/
def negD : D → SR
  | .int i => .d (.int (-i))
  | _ => .no
theorem SE.neg {a : Expr} {ma : M Rv} {pos : Pos} (ha : SE G call C a ma) : SE G call C (.UnaryOp .USub a pos) (c1 negD ma) := fun X ok =>
  pe_mono (pe_un un_neg (ha X ok)) fun σ H Q h => by
    refine rd1 (r := rU fun i => .int (-i)) ?_ h
    intro F H d x Q s hx h
    unfold negD at h
    split at h
    · obtain rfl := hx.int; exact ⟨_, rfl, h.int⟩
    · exact h.elim
/-! ### comparisons -/
mutual
def toPy : D → Option PyData
  | .non => some .none
  | .bl b => some (.bool b)
  | .int i => some (.int i)
  | .str s => some (.str s)
  | .tup ds => (toPys ds).map PyData.tuple
  | .lst ds => (toPys ds).map PyData.list
  | .scr ds => (toPys ds).map PyData.list
  | .dic _ => none
  | .pr _ => none
  | .dit _ => none
  | .ty _ => none
def toPys : List D → Option (List PyData)
  | [] => some []
  | d :: ds => match toPy d, toPys ds with
    | some p, some ps => some (p :: ps)
    | _, _ => none
end
mutual
theorem dp_of {K : PySem.W.Frag} {H : Hp} : ∀ (d : D) (x : V) (p : PyData), Rep K H d x → toPy d = some p → Dp K H x p
  | .non, x, p, h, q => by rw [Rep] at h; rw [toPy] at q; cases q; subst h; exact .non
  | .bl b, x, p, h, q => by rw [Rep] at h; rw [toPy] at q; cases q; subst h; exact .bl b
  | .int i, x, p, h, q => by rw [Rep] at h; rw [toPy] at q; cases q; subst h; exact .int i
  | .str s, x, p, h, q => by rw [Rep] at h; rw [toPy] at q; cases q; subst h; exact .str s
  | .tup ds, x, p, h, q => by
    rw [Rep] at h; rw [toPy, Option.map_eq_some_iff] at q; obtain ⟨a, vs, rfl, h1, h2⟩ := h; obtain ⟨ps, q1, rfl⟩ := q
    exact .tup h1.sq (dps_of ds vs ps h2 q1)
  | .lst ds, x, p, h, q => by
    rw [Rep] at h; rw [toPy, Option.map_eq_some_iff] at q; obtain ⟨a, vs, rfl, h1, h2⟩ := h; obtain ⟨ps, q1, rfl⟩ := q
    exact .lst (SqL.of h1) (dps_of ds vs ps h2 q1)
  | .scr ds, x, p, h, q => by
    rw [Rep] at h; rw [toPy, Option.map_eq_some_iff] at q; obtain ⟨a, vs, rfl, h1, h2⟩ := h; obtain ⟨ps, q1, rfl⟩ := q
    exact .lst h1 (dps_of ds vs ps h2 q1)
  | .dic ds, x, p, h, q => by rw [toPy] at q; cases q
  | .dit ds, x, p, h, q => by rw [toPy] at q; cases q
  | .pr ds, x, p, h, q => by rw [toPy] at q; cases q
  | .ty n, x, p, h, q => by rw [toPy] at q; cases q
theorem dps_of {K : PySem.W.Frag} {H : Hp} : ∀ (ds : List D) (xs : List V) (ps : List PyData), Reps K H ds xs → toPys ds = some ps → DpAll K H xs ps
  | [], xs, ps, h, q => by rw [Reps] at h; rw [toPys] at q; cases q; subst h; exact .nil
  | d :: ds, xs, ps, h, q => by
    rw [Reps] at h; obtain ⟨v, r, rfl, h1, h2⟩ := h
    rw [toPys] at q
    split at q
    · cases q; exact .cons (dp_of d v _ h1 (by assumption)) (dps_of ds r _ h2 (by assumption))
    · cases q
end
def scalD : D → D → Option Bool
  | .non, .non => some true
  | .non, .int _ => some false
  | .int _, .non => some false
  | .non, .bl _ => some false
  | .bl _, .non => some false
  | .non, .str _ => some false
  | .str _, .non => some false
  | .int i, .int j => some (decide (i = j))
  | .bl i, .bl j => some (decide (i = j))
  | .str i, .str j => some (decide (i = j))
  | .int _, .str _ => some false
  | .str _, .int _ => some false
  | .bl _, .str _ => some false
  | .str _, .bl _ => some false
  | _, _ => none
def eqvD (a b : D) : Option Bool := match scalD a b with
  | some k => some k
  | none => match toPy a, toPy b with
    | some x, some y => if (SeqAt.shaped x && SeqAt.shaped y) = true then some (PyData.eqv x y) else none
    | _, _ => none
/-- a tuple, a list, a dict beside a text -/
def refS : D → D → Bool
  | .tup _, .str _ => true
  | .lst _, .str _ => true
  | .scr _, .str _ => true
  | .dic _, .str _ => true
  | _, _ => false
def eqD (a b : D) : SR := if refS a b = true then .d (.bl false) else match eqvD a b with
  | some k => .d (.bl k)
  | none => .no
def neD (a b : D) : SR := match eqvD a b with
  | some k => .d (.bl !k)
  | none => .no
theorem eqv_cases {K : PySem.W.Frag} {F H : Hp} {d d' : D} {x y : V} {k : Bool} (s : Same F H) (hx : View K F H d x) (hy : View K F H d' y) (h : eqvD d d' = some k) :
    (scal x y = true ∧ decide (x = y) = k) ∨ (∃ p q, Dp K H x p ∧ Dp K H y q ∧ SeqAt.shaped p = true ∧ SeqAt.shaped q = true ∧ PyData.eqv p q = k) := by
  unfold eqvD at h
  split at h
  · cases h
    rename_i z
    left
    unfold scalD at z
    split at z <;> first | (cases z; fail) | skip
    all_goals first
      | (cases z; obtain rfl := hx.non; obtain rfl := hy.non; exact ⟨rfl, by decide⟩)
      | (cases z; obtain rfl := hx.non; obtain rfl := hy.int; exact ⟨rfl, by simp⟩)
      | (cases z; obtain rfl := hx.int; obtain rfl := hy.non; exact ⟨rfl, by simp⟩)
      | (cases z; obtain rfl := hx.non; obtain rfl := hy.bl; exact ⟨rfl, by simp⟩)
      | (cases z; obtain rfl := hx.bl; obtain rfl := hy.non; exact ⟨rfl, by simp⟩)
      | (cases z; obtain rfl := hx.non; obtain rfl := hy.str; exact ⟨rfl, by simp⟩)
      | (cases z; obtain rfl := hx.str; obtain rfl := hy.non; exact ⟨rfl, by simp⟩)
      | (cases z; obtain rfl := hx.int; obtain rfl := hy.int; exact ⟨rfl, by simp⟩)
      | (cases z; obtain rfl := hx.bl; obtain rfl := hy.bl; exact ⟨rfl, by simp⟩)
      | (cases z; obtain rfl := hx.str; obtain rfl := hy.str; exact ⟨rfl, by simp⟩)
      | (cases z; obtain rfl := hx.int; obtain rfl := hy.str; exact ⟨rfl, by simp⟩)
      | (cases z; obtain rfl := hx.str; obtain rfl := hy.int; exact ⟨rfl, by simp⟩)
      | (cases z; obtain rfl := hx.bl; obtain rfl := hy.str; exact ⟨rfl, by simp⟩)
      | (cases z; obtain rfl := hx.str; obtain rfl := hy.bl; exact ⟨rfl, by simp⟩)
      | (cases z; done)
  · right
    split at h
    · split at h
      · cases h
        rename_i p q z
        simp only [Bool.and_eq_true] at z
        exact ⟨_, _, dp_of d x _ (hx.rep s) (by assumption), dp_of d' y _ (hy.rep s) (by assumption), z.1, z.2, rfl⟩
      · cases h
    · cases h
theorem room_units {A : Around} (h : Room 0 A) : A.units + 64 < cLine := h.units
def rEqX (X : Cx) : R2 := fun x y H Q => (rEq x y H Q ∨ rEqD X.K x y H Q) ∨ rEqRS X.K x y H Q
def rNeX (X : Cx) : R2 := fun x y H Q => rNe x y H Q ∨ rNeD X.K x y H Q
theorem eq_rule (X : Cx) (F H : Hp) (d d' : D) (x y : V) (Q : VK) (s : Same F H) (hx : View X.K F H d x) (hy : View X.K F H d' y) (h : SRok X.K F H Q (eqD d d')) : rEqX X x y H Q := by
  unfold eqD at h
  split at h
  · rename_i z
    unfold refS at z
    split at z
    · obtain ⟨a, v, rfl, _, q, _⟩ := hx.tup s
      obtain rfl := hy.str
      exact .inr ⟨a, _, rfl, rfl, .inl ⟨_, q⟩, h.bl⟩
    · have r := hx.rep s
      rw [Rep] at r
      obtain ⟨a, v, rfl, q, _⟩ := r
      obtain rfl := hy.str
      exact .inr ⟨a, _, rfl, rfl, .inr (.inl ⟨_, SqL.of q⟩), h.bl⟩
    · have r := hx.rep s
      rw [Rep] at r
      obtain ⟨a, v, rfl, q, _⟩ := r
      obtain rfl := hy.str
      exact .inr ⟨a, _, rfl, rfl, .inr (.inl ⟨_, q⟩), h.bl⟩
    · have r := hx.rep s
      rw [Rep] at r
      obtain ⟨a, v, rfl, q, _⟩ := r
      obtain rfl := hy.str
      exact .inr ⟨a, _, rfl, rfl, .inr (.inr ⟨_, q⟩), h.bl⟩
    · cases z
  · split at h
    · rename_i k z
      rcases eqv_cases s hx hy z with ⟨z1, z2⟩ | ⟨p, q, z1, z2, z3, z4, z5⟩
      · exact .inl (.inl ⟨z1, by rw [z2]; exact h.bl⟩)
      · exact .inl (.inr ⟨p, q, z1, z2, z3, z4, by rw [z5]; exact h.bl⟩)
    · exact h.elim
theorem ne_rule (X : Cx) (F H : Hp) (d d' : D) (x y : V) (Q : VK) (s : Same F H) (hx : View X.K F H d x) (hy : View X.K F H d' y) (h : SRok X.K F H Q (neD d d')) : rNeX X x y H Q := by
  unfold neD at h
  split at h
  · rename_i k z
    rcases eqv_cases s hx hy z with ⟨z1, z2⟩ | ⟨p, q, z1, z2, z3, z4, z5⟩
    · exact .inl ⟨z1, by rw [z2]; exact h.bl⟩
    · exact .inr ⟨p, q, z1, z2, z3, z4, by rw [z5]; exact h.bl⟩
  · exact h.elim
theorem SE.eq {a b : Expr} {ma mb : M Rv} {pos : Pos} (ha : SE G call C a ma) (hb : SE G call C b mb) : SE G call C (.Compare a [.Eq] [b] pos) (c2 eqD ma mb) :=
  SE.cmp (fun X ok => (op_eq.or (op_eqD (room_units ok.room))).or (op_eqRS (room_units ok.room))) eq_rule ha hb (nomark b)
theorem SE.ne {a b : Expr} {ma mb : M Rv} {pos : Pos} (ha : SE G call C a ma) (hb : SE G call C b mb) : SE G call C (.Compare a [.NotEq] [b] pos) (c2 neD ma mb) :=
  SE.cmp (fun X ok => op_ne.or (op_neD (room_units ok.room))) ne_rule ha hb (nomark b)
theorem ST.eq {a b : Expr} {ma mb : M Rv} {pos : Pos} (ha : SE G call C a ma) (hb : SE G call C b mb) : ST G call C (.Compare a [.Eq] [b] pos) (cB (c2 eqD ma mb)) :=
  ST.cmp (fun X ok => (op_eq.or (op_eqD (room_units ok.room))).or (op_eqRS (room_units ok.room))) eq_rule ha hb (nomark b)
theorem ST.ne {a b : Expr} {ma mb : M Rv} {pos : Pos} (ha : SE G call C a ma) (hb : SE G call C b mb) : ST G call C (.Compare a [.NotEq] [b] pos) (cB (c2 neD ma mb)) :=
  ST.cmp (fun X ok => op_ne.or (op_neD (room_units ok.room))) ne_rule ha hb (nomark b)
/-- the order of ints, of texts -/
def ltD : D → D → SR
  | .int i, .int j => .d (.bl (decide (i < j)))
  | _, _ => .no
def leD : D → D → SR
  | .int i, .int j => .d (.bl (decide (i ≤ j)))
  | _, _ => .no
def gtD : D → D → SR
  | .int i, .int j => .d (.bl (decide (j < i)))
  | _, _ => .no
def geD : D → D → SR
  | .int i, .int j => .d (.bl (decide (j ≤ i)))
  | _, _ => .no
theorem lt_rule (X : Cx) (F H : Hp) (d d' : D) (x y : V) (Q : VK) (s : Same F H) (hx : View X.K F H d x) (hy : View X.K F H d' y) (h : SRok X.K F H Q (ltD d d')) : rI0 (fun i j => .bl (decide (i < j))) x y H Q := by
  unfold ltD at h
  split at h
  · obtain rfl := hx.int; obtain rfl := hy.int; exact ⟨_, _, rfl, rfl, h.bl⟩
  · exact h.elim
theorem le_rule (X : Cx) (F H : Hp) (d d' : D) (x y : V) (Q : VK) (s : Same F H) (hx : View X.K F H d x) (hy : View X.K F H d' y) (h : SRok X.K F H Q (leD d d')) : rI0 (fun i j => .bl (decide (i ≤ j))) x y H Q := by
  unfold leD at h
  split at h
  · obtain rfl := hx.int; obtain rfl := hy.int; exact ⟨_, _, rfl, rfl, h.bl⟩
  · exact h.elim
theorem gt_rule (X : Cx) (F H : Hp) (d d' : D) (x y : V) (Q : VK) (s : Same F H) (hx : View X.K F H d x) (hy : View X.K F H d' y) (h : SRok X.K F H Q (gtD d d')) : rI0 (fun i j => .bl (decide (j < i))) x y H Q := by
  unfold gtD at h
  split at h
  · obtain rfl := hx.int; obtain rfl := hy.int; exact ⟨_, _, rfl, rfl, h.bl⟩
  · exact h.elim
theorem ge_rule (X : Cx) (F H : Hp) (d d' : D) (x y : V) (Q : VK) (s : Same F H) (hx : View X.K F H d x) (hy : View X.K F H d' y) (h : SRok X.K F H Q (geD d d')) : rI0 (fun i j => .bl (decide (j ≤ i))) x y H Q := by
  unfold geD at h
  split at h
  · obtain rfl := hx.int; obtain rfl := hy.int; exact ⟨_, _, rfl, rfl, h.bl⟩
  · exact h.elim
theorem SE.lt {a b : Expr} {ma mb : M Rv} {pos : Pos} (ha : SE G call C a ma) (hb : SE G call C b mb) : SE G call C (.Compare a [.Lt] [b] pos) (c2 ltD ma mb) := SE.cmp (r := fun _ => _) (fun X ok => op_lt) lt_rule ha hb (nomark b)
theorem SE.le {a b : Expr} {ma mb : M Rv} {pos : Pos} (ha : SE G call C a ma) (hb : SE G call C b mb) : SE G call C (.Compare a [.LtE] [b] pos) (c2 leD ma mb) := SE.cmp (r := fun _ => _) (fun X ok => op_le) le_rule ha hb (nomark b)
theorem SE.gt {a b : Expr} {ma mb : M Rv} {pos : Pos} (ha : SE G call C a ma) (hb : SE G call C b mb) : SE G call C (.Compare a [.Gt] [b] pos) (c2 gtD ma mb) := SE.cmp (r := fun _ => _) (fun X ok => op_gt) gt_rule ha hb (nomark b)
theorem SE.ge {a b : Expr} {ma mb : M Rv} {pos : Pos} (ha : SE G call C a ma) (hb : SE G call C b mb) : SE G call C (.Compare a [.GtE] [b] pos) (c2 geD ma mb) := SE.cmp (r := fun _ => _) (fun X ok => op_ge) ge_rule ha hb (nomark b)
theorem ST.lt {a b : Expr} {ma mb : M Rv} {pos : Pos} (ha : SE G call C a ma) (hb : SE G call C b mb) : ST G call C (.Compare a [.Lt] [b] pos) (cB (c2 ltD ma mb)) := ST.cmp (r := fun _ => _) (fun X ok => op_lt) lt_rule ha hb (nomark b)
theorem ST.le {a b : Expr} {ma mb : M Rv} {pos : Pos} (ha : SE G call C a ma) (hb : SE G call C b mb) : ST G call C (.Compare a [.LtE] [b] pos) (cB (c2 leD ma mb)) := ST.cmp (r := fun _ => _) (fun X ok => op_le) le_rule ha hb (nomark b)
theorem ST.gt {a b : Expr} {ma mb : M Rv} {pos : Pos} (ha : SE G call C a ma) (hb : SE G call C b mb) : ST G call C (.Compare a [.Gt] [b] pos) (cB (c2 gtD ma mb)) := ST.cmp (r := fun _ => _) (fun X ok => op_gt) gt_rule ha hb (nomark b)
theorem ST.ge {a b : Expr} {ma mb : M Rv} {pos : Pos} (ha : SE G call C a ma) (hb : SE G call C b mb) : ST G call C (.Compare a [.GtE] [b] pos) (cB (c2 geD ma mb)) := ST.cmp (r := fun _ => _) (fun X ok => op_ge) ge_rule ha hb (nomark b)
/-- a is None, a is not None -/
def isD : D → D → SR
  | .non, .non => .d (.bl true)
  | _, .non => .d (.bl false)
  | _, _ => .no
def isNotD : D → D → SR
  | .non, .non => .d (.bl false)
  | _, .non => .d (.bl true)
  | _, _ => .no
theorem view_non {K : PySem.W.Frag} {F H : Hp} {d : D} {x : V} (s : Same F H) (h : View K F H d x) (hd : d ≠ .non) : x ≠ .non := by
  intro z; subst z
  cases d with
  | non => exact hd rfl
  | bl b => cases h.bl
  | int b => cases h.int
  | str b => cases h.str
  | ty b => cases h.ty
  | tup b => obtain ⟨_, _, e, _⟩ := h.tup s; cases e
  | lst b => obtain ⟨_, _, e, _⟩ := h.lst s; cases e
  | scr b => obtain ⟨_, _, e, _⟩ := h.scr s; cases e
  | dic b => obtain ⟨_, _, e, _⟩ := h.dic s; cases e
  | dit b => obtain ⟨_, _, e, _⟩ := h.dit s; cases e
  | pr b => obtain ⟨_, _, e, _⟩ := h.pr s; cases e
theorem is_rule (X : Cx) (F H : Hp) (d d' : D) (x y : V) (Q : VK) (s : Same F H) (hx : View X.K F H d x) (hy : View X.K F H d' y) (h : SRok X.K F H Q (isD d d')) : y = .non ∧ Q (.bl (decide (x = .non))) H := by
  unfold isD at h
  split at h
  · obtain rfl := hx.non; obtain rfl := hy.non; exact ⟨rfl, h.bl⟩
  · obtain rfl := hy.non; rename_i z; exact ⟨rfl, by rw [decide_eq_false (view_non s hx z)]; exact h.bl⟩
  · exact h.elim
theorem isNot_rule (X : Cx) (F H : Hp) (d d' : D) (x y : V) (Q : VK) (s : Same F H) (hx : View X.K F H d x) (hy : View X.K F H d' y) (h : SRok X.K F H Q (isNotD d d')) : y = .non ∧ Q (.bl (!decide (x = .non))) H := by
  unfold isNotD at h
  split at h
  · obtain rfl := hx.non; obtain rfl := hy.non; exact ⟨rfl, h.bl⟩
  · obtain rfl := hy.non; rename_i z; exact ⟨rfl, by rw [decide_eq_false (view_non s hx z)]; exact h.bl⟩
  · exact h.elim
theorem SE.is {a b : Expr} {ma mb : M Rv} {pos : Pos} (ha : SE G call C a ma) (hb : SE G call C b mb) : SE G call C (.Compare a [.Is] [b] pos) (c2 isD ma mb) := SE.cmp (r := fun _ => _) (fun X ok => op_isN) is_rule ha hb (nomark b)
theorem SE.isNot {a b : Expr} {ma mb : M Rv} {pos : Pos} (ha : SE G call C a ma) (hb : SE G call C b mb) : SE G call C (.Compare a [.IsNot] [b] pos) (c2 isNotD ma mb) := SE.cmp (r := fun _ => _) (fun X ok => op_notN) isNot_rule ha hb (nomark b)
theorem ST.is {a b : Expr} {ma mb : M Rv} {pos : Pos} (ha : SE G call C a ma) (hb : SE G call C b mb) : ST G call C (.Compare a [.Is] [b] pos) (cB (c2 isD ma mb)) := ST.cmp (r := fun _ => _) (fun X ok => op_isN) is_rule ha hb (nomark b)
theorem ST.isNot {a b : Expr} {ma mb : M Rv} {pos : Pos} (ha : SE G call C a ma) (hb : SE G call C b mb) : ST G call C (.Compare a [.IsNot] [b] pos) (cB (c2 isNotD ma mb)) := ST.cmp (r := fun _ => _) (fun X ok => op_notN) isNot_rule ha hb (nomark b)
end
end PV

namespace PV
open PySem PySem.Spec L2
/-! ### 12. dicts as lists of pairs -/
def valD (kvs : List (Key × D)) (k : Key) : Option D := (kvs.find? fun kv => decide (kv.1 = k)).map (·.2)
def putD (kvs : List (Key × D)) (k : Key) (v : D) : List (Key × D) :=
  if (kvs.any fun kv => decide (kv.1 = k)) = true then kvs.map (fun kv => if kv.1 = k then (kv.1, v) else kv) else kvs ++ [(k, v)]
def mergeD (kvs more : List (Key × D)) : List (Key × D) := more.foldl (fun acc kv => putD acc kv.1 kv.2) kvs
def keyD : D → Option Key
  | .int i => some (.inl i)
  | .str s => some (.inr s)
  | _ => none
section
variable {K : PySem.W.Frag} {F H : Hp}
theorem RepsK.val : ∀ {kvs : List (Key × D)} {vs : List (Key × V)} (k : Key), RepsK K F kvs vs → (∀ d, valD kvs k = some d → ∃ v, valV vs k = some v ∧ Rep K F d v) ∧ (valD kvs k = none → valV vs k = none)
  | [], vs, k, h => by rw [RepsK] at h; subst h; exact ⟨fun d h => by simp [valD] at h, fun _ => rfl⟩
  | (j, d) :: r, vs, k, h => by
    rw [RepsK] at h
    obtain ⟨v, w, rfl, h1, h2⟩ := h
    obtain ⟨i1, i2⟩ := RepsK.val k h2
    by_cases z : j = k
    · subst z
      have e1 : valD ((j, d) :: r) j = some d := by simp [valD]
      have e2 : valV ((j, v) :: w) j = some v := by simp [valV]
      rw [e1, e2]
      exact ⟨fun d' q => by cases q; exact ⟨v, rfl, h1⟩, fun q => by cases q⟩
    · have e1 : valD ((j, d) :: r) k = valD r k := by simp [valD, z]
      have e2 : valV ((j, v) :: w) k = valV w k := by simp [valV, z]
      rw [e1, e2]
      exact ⟨i1, i2⟩
theorem RepsK.any : ∀ {kvs : List (Key × D)} {vs : List (Key × V)} (k : Key), RepsK K F kvs vs → (kvs.any fun kv => decide (kv.1 = k)) = (vs.any fun kv => decide (kv.1 = k))
  | [], vs, k, h => by rw [RepsK] at h; subst h; rfl
  | (j, d) :: r, vs, k, h => by
    rw [RepsK] at h
    obtain ⟨v, w, rfl, h1, h2⟩ := h
    simp only [List.any_cons, RepsK.any k h2]
theorem RepsK.append : ∀ {kvs : List (Key × D)} {vs : List (Key × V)} {k2 : List (Key × D)} {v2 : List (Key × V)}, RepsK K F kvs vs → RepsK K F k2 v2 → RepsK K F (kvs ++ k2) (vs ++ v2)
  | [], vs, _, _, h, q => by rw [RepsK] at h; subst h; exact q
  | (j, d) :: r, vs, _, _, h, q => by rw [RepsK] at h; obtain ⟨v, w, rfl, h1, h2⟩ := h; rw [List.cons_append, RepsK]; exact ⟨v, _, rfl, h1, RepsK.append h2 q⟩
theorem RepsK.repl : ∀ {kvs : List (Key × D)} {vs : List (Key × V)} (k : Key) {d : D} {v : V}, RepsK K F kvs vs → Rep K F d v → RepsK K F (kvs.map (fun kv => if kv.1 = k then (kv.1, d) else kv)) (vs.map (fun kv => if kv.1 = k then (kv.1, v) else kv))
  | [], vs, k, d, v, h, q => by rw [RepsK] at h; subst h; simp [RepsK]
  | (j, e) :: r, vs, k, d, v, h, q => by
    rw [RepsK] at h; obtain ⟨u, w, rfl, h1, h2⟩ := h
    simp only [List.map_cons]
    by_cases z : j = k
    · rw [if_pos z, if_pos z, RepsK]; exact ⟨v, _, rfl, q, RepsK.repl k h2 q⟩
    · rw [if_neg z, if_neg z, RepsK]; exact ⟨u, _, rfl, h1, RepsK.repl k h2 q⟩
theorem RepsK.one {k : Key} {d : D} {v : V} (h : Rep K F d v) : RepsK K F [(k, d)] [(k, v)] := by rw [RepsK]; exact ⟨v, [], rfl, h, by rw [RepsK]⟩
theorem RepsK.nil : RepsK K F [] [] := by rw [RepsK]
theorem RepsK.put {kvs : List (Key × D)} {vs : List (Key × V)} (k : Key) {d : D} {v : V} (h : RepsK K F kvs vs) (q : Rep K F d v) : RepsK K F (putD kvs k d) (putK vs k v) := by
  unfold putD putK
  rw [RepsK.any k h]
  split
  · exact h.repl k q
  · exact h.append (RepsK.one q)
theorem RepsK.merge : ∀ {more : List (Key × D)} {mv : List (Key × V)} {kvs : List (Key × D)} {vs : List (Key × V)}, RepsK K F more mv → RepsK K F kvs vs → RepsK K F (mergeD kvs more) (mergeK vs mv)
  | [], mv, _, _, h, q => by rw [RepsK] at h; subst h; exact q
  | (k, d) :: r, mv, _, _, h, q => by
    rw [RepsK] at h; obtain ⟨u, w, rfl, h1, h2⟩ := h
    exact RepsK.merge (more := r) (mv := w) h2 (q.put k h1)
theorem RepsK.keys : ∀ {kvs : List (Key × D)} {vs : List (Key × V)}, RepsK K F kvs vs → vs.map (·.1) = kvs.map (·.1)
  | [], vs, h => by rw [RepsK] at h; subst h; rfl
  | (k, d) :: r, vs, h => by rw [RepsK] at h; obtain ⟨u, w, rfl, h1, h2⟩ := h; simp [RepsK.keys h2]
theorem View.key {d : D} {x : V} {k : Key} (h : View K F H d x) (hk : keyD d = some k) : x = kV k := by
  cases d <;> simp only [keyD, Option.some.injEq, reduceCtorEq] at hk
  · subst hk; exact h.int
  · subst hk; exact h.str
end
/-! ### index -/
def ixD : D → D → SR
  | .tup ds, .int i => match atI ds i with
    | some d => .d d
    | none => .no
  | .lst ds, .int i => match atI ds i with
    | some d => .d d
    | none => .no
  | .scr ds, .int i => match atI ds i with
    | some d => .d d
    | none => .no
  | .str z, .int i => if z.length ≤ sizeLine then (match atI z.cps.toList i with
    | some c => .d (.str ⟨#[c]⟩)
    | none => .no) else .no
  | .dic kvs, k => match keyD k with
    | some k => (match valD kvs k with
      | some d => .d d
      | none => .no)
    | none => .no
  | _, _ => .no
theorem Reps.atI {K : PySem.W.Frag} {F : Hp} {ds : List D} {vs : List V} {i : Int} {d : D} (h : Reps K F ds vs) (e : atI ds i = some d) : ∃ v, L2.atI vs i = some v ∧ Rep K F d v := by
  unfold L2.atI at e ⊢
  rw [← h.length]
  cases hj : ixN ds.length i with
  | none => rw [hj] at e; cases e
  | some j =>
    rw [hj] at e
    exact h.get e
def isDic : D → Bool
  | .dic _ => true
  | _ => false
section
variable {G : Prg} {call : Nat → FSem} {C : Cxt}
theorem pe_or2 {X : Cx} {e : Expr} {t1 t2 : TE} (h1 : PE X e t1) (h2 : PE X e t2) : PE X e (fun σ H Q => t1 σ H Q ∨ t2 σ H Q) := ⟨fun pins s σ H Q I q => q.elim (h1.run pins s σ H Q I) (h2.run pins s σ H Q I)⟩
/-- by what the first one is behind both -/
theorem rd2_or {K : PySem.W.Frag} {ma mb : M Rv} {f : D → D → SR} {p : D → Bool} {r1 r2 : R2} {σ : L2.St} {H : Hp} {Q : VK} (hf1 : ∀ F H d d' x y Q, Same F H → View K F H d x → View K F H d' y → p d = false → SRok K F H Q (f d d') → r1 x y H Q)
    (hf2 : ∀ F H d d' x y Q, Same F H → View K F H d x → View K F H d' y → p d = true → SRok K F H Q (f d d') → r2 x y H Q) (h : RdE K (c2 f ma mb) σ H Q) :
    (RdE K ma σ H (fun x H1 => RdE K mb σ H1 fun y H2 => r1 x y H2 Q)) ∨ (RdE K ma σ H (fun x H1 => RdE K mb σ H1 fun y H2 => r2 x y H2 Q)) := by
  obtain ⟨g, F, e, R, h⟩ := h
  have h1 := post_bnd.mp h
  cases ha : cOp ma e with
  | stuck => rw [ha] at h1; exact h1.elim
  | exc x e' => rw [ha] at h1; exact h1.elim
  | ok ra e1 =>
    rw [ha] at h1
    have h2 := post_bnd.mp h1
    cases hb : cOp mb e1 with
    | stuck => rw [hb] at h2; exact h2.elim
    | exc x e' => rw [hb] at h2; exact h2.elim
    | ok rb e2 =>
      rw [hb] at h2
      have runA : (cOp ma e).post (fun r e' => ra = r ∧ e1 = e') NoX := by rw [ha]; exact ⟨rfl, rfl⟩
      have runB : (cOp mb e1).post (fun r e' => rb = r ∧ e2 = e') NoX := by rw [hb]; exact ⟨rfl, rfl⟩
      cases hv : ra.view e2 with
      | none => simp only [Out.post, hv] at h2
      | some d =>
        cases hw : rb.view e2 with
        | none => simp only [Out.post, hv, hw] at h2
        | some d' =>
          have go : ∀ r : R2, (∀ F H x y, Same F H → View K F H d x → View K F H d' y → SRok K F H Q (f d d') → r x y H Q) → RdE K ma σ H (fun x H1 => RdE K mb σ H1 fun y H2 => r x y H2 Q) := by
            intro r hr
            refine rdO ⟨g, F, e, R, Out.post_imp runA ?_ (fun _ _ q => q)⟩
            rintro _ _ ⟨rfl, rfl⟩ v F1 H1 s1 R1 ok1
            refine rdO ⟨g, F1, e1, R1, Out.post_imp runB ?_ (fun _ _ q => q)⟩
            rintro _ _ ⟨rfl, rfl⟩ u F2 H2 s2 R2 ok2
            refine hr F2 H2 v u R2.sub ((ok1.mono s2).view R2 hv) (ok2.view R2 hw) (SRok.of R2 ?_)
            have h3 : (cSR (f d d') e2).post (fun r e' => ∀ v F' H', Same F F' → Rel K g F' e' σ H' → RvOk K g F' H' e' σ r v → Q v H') NoX := by simpa only [Out.post, hv, hw] using h2
            exact Out.post_imp h3 (fun a e3 q2 v2 F3 H3 s3 => q2 v2 F3 H3 ((s1.trans s2).trans s3)) (fun _ _ q => q)
          cases hp : p d with
          | false => exact .inl (go r1 fun F H x y s hx hy q => hf1 F H d d' x y Q s hx hy hp q)
          | true => exact .inr (go r2 fun F H x y s hx hy q => hf2 F H d d' x y Q s hx hy hp q)
theorem SE.ix {a b : Expr} {ma mb : M Rv} {pos : Pos} (ha : SE G call C a ma) (hb : SE G call C b mb) (hs : ∀ o i, subscripted b false o i = operate [o, i] (getItem o i) := by intro _ _; rfl) : SE G call C (.Subscript a b pos) (c2 ixD ma mb) := fun X ok => by
  refine pe_mono (pe_or2 (pe_ix ix_seq (ha X ok) (hb X ok) hs) (pe_dget (hu_of ok.room) (ha X ok) (hb X ok) hs)) fun σ H Q h => ?_
  refine rd2_or (p := isDic) (r1 := rIx X.K) (r2 := fun x y H2 Q => ∃ a v, x = .ref a ∧ DGet H2 a y (some v) ∧ Q v H2) ?_ ?_ h
  · intro F H d d' x y Q s hx hy hp h
    unfold ixD at h
    split at h
    · split at h
      · rename_i q
        obtain ⟨a1, v1, rfl, q1, q1', r1⟩ := hx.tup s; obtain rfl := hy.int
        obtain ⟨v, w1, w2⟩ := r1.atI q
        exact .inr (.inl ⟨a1, v1, _, v, rfl, rfl, q1', w1, h _ w2⟩)
      · exact h.elim
    · split at h
      · rename_i q
        obtain ⟨a1, v1, rfl, q1, r1⟩ := hx.lst s; obtain rfl := hy.int
        obtain ⟨v, w1, w2⟩ := r1.atI q
        exact .inl ⟨a1, v1, _, v, rfl, rfl, SqL.of q1, w1, h _ w2⟩
      · exact h.elim
    · split at h
      · rename_i q
        obtain ⟨a1, v1, rfl, q1, r1⟩ := hx.scr s; obtain rfl := hy.int
        obtain ⟨v, w1, w2⟩ := r1.atI q
        exact .inl ⟨a1, v1, _, v, rfl, rfl, q1, w1, h _ w2⟩
      · exact h.elim
    · split at h
      · split at h
        · obtain rfl := hx.str; obtain rfl := hy.int
          exact .inr (.inr ⟨_, _, _, rfl, rfl, by assumption, by assumption, h.str⟩)
        · exact h.elim
      · exact h.elim
    · cases hp
    · exact h.elim
  · intro F H d d' x y Q s hx hy hp h
    cases d <;> first | (cases hp; done) | skip
    rename_i kvs
    unfold ixD at h
    simp only at h
    split at h
    · rename_i k hk
      split at h
      · rename_i dd hd
        obtain ⟨a1, v1, rfl, q1, r1⟩ := hx.dic s
        obtain rfl := hy.key hk
        obtain ⟨v, w1, w2⟩ := (r1.val k).1 _ hd
        exact ⟨a1, v, rfl, by rw [← w1]; exact DGet.k q1, h _ w2⟩
      · exact h.elim
    · exact h.elim
/-! ### slices -/
def cutD (ds : List D) (lo hi : Option Int) : List D := (ds.drop (HT.sIx ds.length 0 lo)).take (HT.sIx ds.length ds.length hi - HT.sIx ds.length 0 lo)
def sliceD : D → Option Int → Option Int → SR
  | .tup ds, lo, hi => .nt (cutD ds lo hi)
  | .lst ds, lo, hi => .ob (.lst (cutD ds lo hi))
  | .scr ds, lo, hi => .ob (.lst (cutD ds lo hi))
  | .str z, lo, hi => if z.length ≤ sizeLine then .d (.str (cutS z lo hi)) else .no
  | _, _, _ => .no
def partM : Option (M Rv) → M (Option Int)
  | none => ret none
  | some m => bnd (cVal m) fun d => match d with
    | .int i => ret (some i)
    | _ => fail
def cSlice (m : M Rv) (lo hi : Option (M Rv)) : M Rv := bnd (cOp m) fun r => bnd (partM lo) fun l => bnd (partM hi) fun u e => match r.view e with
  | some d => cSR (sliceD d l u) e
  | none => .stuck
def RdP (K : PySem.W.Frag) (m : M (Option Int)) : TO := fun σ H Q => ∃ g F e, Rel K g F e σ H ∧ (m e).post (fun b e' => ∀ F' H', Same F F' → Rel K g F' e' σ H' → Q b H') NoX
theorem po_mono {X : Cx} {e : Option Expr} {t t' : TO} (h : PO X e t) (k : ∀ σ H Q, t' σ H Q → t σ H Q) : PO X e t' := ⟨fun pins s σ H Q I q => h.run pins s σ H Q I (k σ H Q q)⟩
def SP' (G : Prg) (call : Nat → FSem) (C : Cxt) (e : Option Expr) (m : Option (M Rv)) : Prop := ∀ X, XOk G call C X → PO X e (RdP X.K (partM m))
theorem SP'.none : SP' G call C none none := fun X ok => po_mono po_none fun σ H Q h => by
  obtain ⟨g, F, e, R, h⟩ := h
  exact h F H (Same.refl F) R
theorem SP'.some {e : Expr} {m : M Rv} (he : SE G call C e m) : SP' G call C (some e) (some m) := fun X ok => po_mono (po_some (he X ok)) fun σ H Q h => by
  obtain ⟨g, F, e, R, h⟩ := h
  refine rdD ⟨g, F, e, R, Out.post_imp (post_bnd.mp h) ?_ (fun _ _ q => q)⟩
  intro d e' q v F' H' s1 R1 rep
  cases d with
  | int i => rw [Rep] at rep; exact ⟨i, rep, q F' H' s1 R1⟩
  | _ => exact q.elim
theorem Reps.cut {K : PySem.W.Frag} {F : Hp} {ds : List D} {vs : List V} (h : Reps K F ds vs) (lo hi : Option Int) : Reps K F (cutD ds lo hi) (cutV vs lo hi) := by
  unfold cutD cutV
  rw [← h.length]
  exact (h.drop _).take _
theorem SE.slice {a : Expr} {lo hi : Option Expr} {m : M Rv} {ml mh : Option (M Rv)} {p2 pos : Pos} (ha : SE G call C a m) (hl : SP' G call C lo ml) (hh : SP' G call C hi mh) : SE G call C (.Subscript a (.Slice lo hi none p2) pos) (cSlice m ml mh) := fun X ok => by
  refine pe_mono (pe_slice ((sl_list.or sl_tupN).or sl_str) (ha X ok) (hl X ok) (hh X ok)) fun σ H Q h => ?_
  obtain ⟨g, F, e, R, h⟩ := h
  refine rdO_bnd R h fun rv e1 v F1 H1 s1 R1 ok1 h1 => ?_
  refine ⟨g, F1, e1, R1, Out.post_imp (post_bnd.mp h1) ?_ (fun _ _ q => q)⟩
  intro l e2 q2 F2 H2 s2 R2
  refine ⟨g, F2, e2, R2, Out.post_imp (post_bnd.mp q2) ?_ (fun _ _ q => q)⟩
  intro u e3 q3 F3 H3 s3 R3
  cases hv : rv.view e3 with
  | none => simp only [hv] at q3; exact q3.elim
  | some d =>
    simp only [hv] at q3
    have sr : SRok X.K F3 H3 Q (sliceD d l u) := SRok.of R3 (Out.post_imp q3 (fun a e4 q4 v4 F4 H4 s4 => q4 v4 F4 H4 (((s1.trans s2).trans s3).trans s4)) (fun _ _ q => q))
    have vw := (ok1.mono (s2.trans s3)).view R3 hv
    have s := R3.sub
    unfold sliceD at sr
    split at sr
    · obtain ⟨a1, v1, rfl, q1, q1', r1⟩ := vw.tup s
      refine .inl (.inr ⟨a1, v1, rfl, q1', ?_, ?_⟩)
      · intro z
        refine sr.1 _ ?_
        rename_i ds
        have e : cutD ds l u = ds := by
          unfold cutD
          rw [r1.length, z.1, z.2, ← r1.length]
          simp
        rw [e]; exact vw.tupRep
      · intro _
        exact sr.2 _ (r1.cut l u)
    · obtain ⟨a1, v1, rfl, q1, r1⟩ := vw.lst s
      exact .inl (.inl ⟨a1, v1, rfl, SqL.of q1, fun p hp => sr.lst hp (r1.cut l u)⟩)
    · obtain ⟨a1, v1, rfl, q1, r1⟩ := vw.scr s
      exact .inl (.inl ⟨a1, v1, rfl, q1, fun p hp => sr.lst hp (r1.cut l u)⟩)
    · split at sr
      · rename_i z
        obtain rfl := vw.str
        exact .inr ⟨_, rfl, z, sr.str⟩
      · exact sr.elim
    · exact sr.elim
/-! ### displays -/
def takeAll : List (M Rv) → M (List D)
  | [] => ret []
  | m :: ms => bnd (cVal m) fun d => bnd (takeAll ms) fun ds => ret (d :: ds)
def cTup (ms : List (M Rv)) : M Rv := bnd (takeAll ms) fun ds => if ds.length ≤ sizeLine then ret (.v (.tup ds)) else fail
def cLst (ms : List (M Rv)) : M Rv := bnd (takeAll ms) fun ds => if ds.length ≤ sizeLine then ret (.o (.lst ds)) else fail
def RdDs (K : PySem.W.Frag) (m : M (List D)) : TA := fun σ H Q => ∃ g F e, Rel K g F e σ H ∧ (m e).post (fun b e' => ∀ vs F' H', Same F F' → Rel K g F' e' σ H' → Reps K F' b vs → Q vs H') NoX
def SL (G : Prg) (call : Nat → FSem) (C : Cxt) (es : List Expr) (ms : List (M Rv)) : Prop := ∀ X, XOk G call C X → PA X es (RdDs X.K (takeAll ms))
theorem SL.nil : SL G call C [] [] := fun X ok => pa_mono pa_nil fun σ H Q h => by
  obtain ⟨g, F, e, R, h⟩ := h
  exact h [] F H (Same.refl F) R Reps.nil
theorem SL.cons {e : Expr} {es : List Expr} {m : M Rv} {ms : List (M Rv)} (h1 : SE G call C e m) (h2 : SL G call C es ms) (hs : ∀ env, starEach (e :: es) env = (false, eval e env) :: starEach es env := by intro _; rfl) : SL G call C (e :: es) (m :: ms) := fun X ok =>
  pa_mono (pa_cons (h1 X ok) (h2 X ok) (hs _)) fun σ H Q h => by
    obtain ⟨g, F, en, R, h⟩ := h
    refine rdD ⟨g, F, en, R, Out.post_imp (post_bnd.mp h) ?_ (fun _ _ q => q)⟩
    intro d e1 q v F1 H1 s1 R1 rep
    refine ⟨g, F1, e1, R1, Out.post_imp (post_bnd.mp q) ?_ (fun _ _ q => q)⟩
    intro ds e2 q2 vs F2 H2 s2 R2 rep2
    exact q2 (v :: vs) F2 H2 (s1.trans s2) R2 (Reps.cons (rep.mono s2) rep2)
theorem SE.tup {es : List Expr} {ms : List (M Rv)} {k : Nat} {pos : Pos} (h : SL G call C es ms) : SE G call C (.Tuple es k pos) (cTup ms) := fun X ok => pe_mono (pe_tupN (h X ok)) fun σ H Q h => by
  obtain ⟨g, F, e, R, h⟩ := h
  refine ⟨g, F, e, R, Out.post_imp (post_bnd.mp h) ?_ (fun _ _ q => q)⟩
  intro ds e' q vs F' H' s1 R1 rep
  by_cases z : ds.length ≤ sizeLine
  · rw [if_pos z] at q
    have sr : SRok X.K F' H' Q (.nt ds) := SRok.of R1 (fun v F2 H2 s2 => q v F2 H2 (s1.trans s2))
    exact ⟨by rw [← rep.length]; exact z, sr.2 vs rep⟩
  · rw [if_neg z] at q; exact q.elim
theorem SE.lst {es : List Expr} {ms : List (M Rv)} {pos : Pos} (h : SL G call C es ms) : SE G call C (.List es pos) (cLst ms) := fun X ok => pe_mono (pe_lst (h X ok)) fun σ H Q h => by
  obtain ⟨g, F, e, R, h⟩ := h
  refine ⟨g, F, e, R, Out.post_imp (post_bnd.mp h) ?_ (fun _ _ q => q)⟩
  intro ds e' q vs F' H' s1 R1 rep
  by_cases z : ds.length ≤ sizeLine
  · rw [if_pos z] at q
    have sr : SRok X.K F' H' Q (.ob (.lst ds)) := SRok.of R1 (fun v F2 H2 s2 => q v F2 H2 (s1.trans s2))
    exact ⟨by rw [← rep.length]; exact z, fun p hp => sr.lst hp rep⟩
  · rw [if_neg z] at q; exact q.elim
/-- {} whose keys will be ints and texts -/
def cDic0 : M Rv := ret (.o (.dic []))
theorem SE.dic0 {pos : Pos} : SE G call C (.Dict [] [] pos) cDic0 := fun X ok => pe_mono pe_dnewK fun σ H Q h => by
  obtain ⟨g, F, e, R, h⟩ := h
  have sr : SRok X.K F H Q (.ob (.dic [])) := SRok.of R h
  exact fun p hp => sr p _ hp ⟨[], rfl, RepsK.nil⟩
/-- {k: v, ..} -/
def pairsM : List (M Rv × M Rv) → M (List (D × D))
  | [] => ret []
  | (mk, mv) :: r => bnd (cVal mk) fun k => bnd (cVal mv) fun v => bnd (pairsM r) fun ps => ret ((k, v) :: ps)
def keysD : List (D × D) → Option (List (Key × D))
  | [] => some []
  | (k, v) :: r => match keyD k, keysD r with
    | some k, some ps => some ((k, v) :: ps)
    | _, _ => none
def cDic (ps : List (M Rv × M Rv)) : M Rv := bnd (pairsM ps) fun ps => match keysD ps with
  | some kvs => ret (.o (.dic (mergeD [] kvs)))
  | none => fail
def RepsP (K : PySem.W.Frag) (F : Hp) : List (D × D) → List (V × V) → Prop
  | [], vs => vs = []
  | (k, v) :: r, vs => ∃ x y w, vs = (x, y) :: w ∧ Rep K F k x ∧ Rep K F v y ∧ RepsP K F r w
theorem keysD_of {K : PySem.W.Frag} {F : Hp} : ∀ {ps : List (D × D)} {vs : List (V × V)} {kvs : List (Key × D)}, RepsP K F ps vs → keysD ps = some kvs → ∃ kv, vs = kv.map (fun kv => (kV kv.1, kv.2)) ∧ RepsK K F kvs kv
  | [], vs, kvs, h, q => by rw [RepsP] at h; simp only [keysD, Option.some.injEq] at q; subst h; subst q; exact ⟨[], rfl, RepsK.nil⟩
  | (k, v) :: r, vs, kvs, h, q => by
    rw [RepsP] at h; obtain ⟨x, y, w, rfl, h1, h2, h3⟩ := h
    unfold keysD at q
    split at q
    · rename_i kk pp e1 e2
      cases q
      obtain ⟨kv, e3, e4⟩ := keysD_of h3 e2
      have hx : x = kV kk := View.key (H := F) (.inl h1) e1
      subst hx; subst e3
      refine ⟨(kk, y) :: kv, rfl, ?_⟩
      rw [RepsK]; exact ⟨y, kv, rfl, h2, e4⟩
    · cases q
def SPP (G : Prg) (call : Nat → FSem) (C : Cxt) (pos : Pos) (ks : List (Option Expr)) (vs : List Expr) (ps : List (M Rv × M Rv)) : Prop := ∀ X, XOk G call C X → ∃ trs : List (TE × TE), PPs X pos ks vs trs ∧
  ∀ (g : Gh) (F : Hp) (e : En) (σ : L2.St) (H : Hp) (Q : List (V × V) → Hp → Prop), Rel X.K g F e σ H → (pairsM ps e).post (fun ps e' => ∀ vs F' H', Same F F' → Rel X.K g F' e' σ H' → RepsP X.K F' ps vs → Q vs H') NoX → tPairs trs σ H Q
theorem SPP.nil {pos : Pos} : SPP G call C pos [] [] [] := fun X ok => ⟨[], pps_nil, fun g F e σ H Q R h => h [] F H (Same.refl F) R (by rw [RepsP])⟩
theorem RepsP.mono {K : PySem.W.Frag} {F F' : Hp} (s : Same F F') : ∀ {ps : List (D × D)} {vs : List (V × V)}, RepsP K F ps vs → RepsP K F' ps vs
  | [], _, h => h
  | (k, v) :: r, _, h => by rw [RepsP] at h ⊢; obtain ⟨x, y, w, e, h1, h2, h3⟩ := h; exact ⟨x, y, w, e, h1.mono s, h2.mono s, RepsP.mono s h3⟩
theorem SPP.cons {pos : Pos} {k v : Expr} {ks : List (Option Expr)} {vs : List Expr} {mk mv : M Rv} {ps : List (M Rv × M Rv)} (h1 : SE G call C k mk) (h2 : SE G call C v mv) (h3 : SPP G call C pos ks vs ps) : SPP G call C pos (some k :: ks) (v :: vs) ((mk, mv) :: ps) := fun X ok => by
  obtain ⟨trs, p, kk⟩ := h3 X ok
  refine ⟨_, pps_cons (h1 X ok) (h2 X ok) p, ?_⟩
  intro g F e σ H Q R h
  refine rdD ⟨g, F, e, R, Out.post_imp (post_bnd.mp h) ?_ (fun _ _ q => q)⟩
  intro dk e1 q1 x F1 H1 s1 R1 rep1
  refine rdD ⟨g, F1, e1, R1, Out.post_imp (post_bnd.mp q1) ?_ (fun _ _ q => q)⟩
  intro dv e2 q2 y F2 H2 s2 R2 rep2
  refine kk g F2 e2 σ H2 _ R2 (Out.post_imp (post_bnd.mp q2) ?_ (fun _ _ q => q))
  intro ps e3 q3 vs F3 H3 s3 R3 rep3
  exact q3 ((x, y) :: vs) F3 H3 ((s1.trans s2).trans s3) R3 ⟨x, y, vs, rfl, rep1.mono (s2.trans s3), rep2.mono s3, rep3⟩
theorem keysD_length : ∀ {ps : List (D × D)} {kvs : List (Key × D)}, keysD ps = some kvs → kvs.length = ps.length
  | [], kvs, q => by simp only [keysD, Option.some.injEq] at q; subst q; rfl
  | (k, v) :: r, kvs, q => by
    unfold keysD at q
    split at q
    · rename_i e2; cases q; simp [keysD_length e2]
    · cases q
theorem pairsM_length : ∀ (ps : List (M Rv × M Rv)) (e : En), (pairsM ps e).post (fun qs _ => qs.length = ps.length) (fun _ _ => True) ∨ pairsM ps e = .stuck
  | [], e => .inl rfl
  | (mk, mv) :: r, e => by
    unfold pairsM bnd
    cases cVal mk e with
    | stuck => exact .inr rfl
    | exc x e' => exact .inl trivial
    | ok k e1 =>
      simp only
      cases cVal mv e1 with
      | stuck => exact .inr rfl
      | exc x e' => exact .inl trivial
      | ok v e2 =>
        simp only
        rcases pairsM_length r e2 with q | q
        · cases hq : pairsM r e2 with
          | stuck => exact .inr rfl
          | exc x e' => exact .inl trivial
          | ok ps e3 => rw [hq] at q; exact .inl (by simp only [Out.post, ret, List.length_cons]; exact congrArg (· + 1) q)
        · rw [q]; exact .inr rfl
theorem SE.dic {pos : Pos} {ks : List (Option Expr)} {vs : List Expr} {ps : List (M Rv × M Rv)} (h : SPP G call C pos ks vs ps) (hall : ks.all (·.isSome) = true) (hl : ks.length = vs.length) (h0 : ks ≠ []) (h15 : ks.length ≤ 15) (hp : ps.length = ks.length) :
    SE G call C (.Dict ks vs pos) (cDic ps) := fun X ok => by
  obtain ⟨trs, pp, kk⟩ := h X ok
  refine pe_mono (pe_disp pp hall hl h0 h15) fun σ H Q h => ?_
  obtain ⟨g, F, e, R, h⟩ := h
  intro p hp0
  have R0 := R.alloc (.dK []) hp0
  have hF := R.freshF hp0
  have hno := R.noOwn hp0
  have hg := R.fresh hp0
  refine kk (g.at F (upd H p (.dK [])) e σ) F e σ _ _ R0.rebase ?_
  have h1 := post_bnd.mp h
  cases hm : pairsM ps e with
  | stuck => rw [hm] at h1; exact h1.elim
  | exc x e' => rw [hm] at h1; exact h1.elim
  | ok qs e' =>
    rw [hm] at h1
    have hlen : qs.length = ps.length := by
      rcases pairsM_length ps e with q | q
      · rw [hm] at q; exact q
      · rw [hm] at q; cases q
    intro ws F' H' s1 R1 rep
    obtain ⟨k1, k2⟩ := R0.stays R1 upd_same hno
    have k3 := R0.unbase R1
    have k4 := R0.noOwnLater R1 upd_same hno
    cases hk : keysD qs with
    | none => simp only [Out.post, hk] at h1; exact h1.elim
    | some kvs =>
      simp only [Out.post, hk] at h1
      obtain ⟨kv, e1, e2⟩ := keysD_of rep hk
      refine ⟨k1, kv, e1, ?_, ?_⟩
      · rw [← e2.length, keysD_length hk, hlen, hp]; exact h15
      · refine h1 (.ref p) F' _ s1 (k3.other _ k1 (k2 hF) hg k4) ?_
        exact ⟨p, rfl, by rw [upd_same]; exact ⟨_, rfl, e2.merge RepsK.nil⟩, k2 hF, hg, k4⟩
end
end PV

namespace PV
open PySem PySem.Spec L2 PyProof.Rows
/-! ### 13. calls of builtins -/
theorem CallR.or {X : Cx} {f : Value} {r1 r2 : List V → Hp → VK → Prop} (h1 : CallR X f r1) (h2 : CallR X f r2) : CallR X f (fun xs H Q => r1 xs H Q ∨ r2 xs H Q) := fun pins s σ H xs us Q I r h => h.elim (h1 pins s σ H xs us Q I r) (h2 pins s σ H xs us Q I r)
theorem CallR.mono {X : Cx} {f : Value} {r r' : List V → Hp → VK → Prop} (h : CallR X f r) (k : ∀ xs H Q, r' xs H Q → r xs H Q) : CallR X f r' := fun pins s σ H xs us Q I rv q => h pins s σ H xs us Q I rv (k xs H Q q)
section
variable {G : Prg} {call : Nat → FSem} {C : Cxt}
theorem SE.callB {id : String} {r : Cx → List V → Hp → VK → Prop} {f : List D → SR} (hc : ∀ X, XOk G call C X → CallR X (.builtin id) (r X)) (hf : ∀ X F H ds vs Q, Same F H → Views X.K F H ds vs → SRok X.K F H Q (f ds) → r X vs H Q)
    {i j : Nat} {x : Str} {e : Expr} {es : List Expr} {ms : List (M AV)} {p pos : Pos} (hg : C.gl[j]? = some x) (hb : G.blt[i]? = some x) (hv : bootBuiltins x = some (.builtin id)) (ha : SA G call C (e :: es) ms)
    (he : ∀ env, starEach (e :: es) env = (false, eval e env) :: starEach es env := by intro _; rfl) (hpl : ∀ env, (backTo pos (starEach es env)).any (·.1) = false := by intro _; rfl) : SE G call C (.Call (.Name x p) (e :: es) [] pos) (cN f ms) := fun X ok => by
  obtain ⟨g1, g2⟩ := ok.gl hg
  exact pe_mono (pe_callB (hc X ok) g1 (ok.blt i x hb) hv (ha X ok) (okName_name g2) (okName_debug g2) (he _) (hpl _)) fun σ H Q h => rdN (hf X) h
theorem SE.callT {T : String} {r : Cx → List V → Hp → VK → Prop} {f : List D → SR} (hc : ∀ X, XOk G call C X → CallR X (.type T) (r X)) (hf : ∀ X F H ds vs Q, Same F H → Views X.K F H ds vs → SRok X.K F H Q (f ds) → r X vs H Q)
    {i j : Nat} {x : Str} {e : Expr} {es : List Expr} {ms : List (M AV)} {p pos : Pos} (hg : C.gl[j]? = some x) (hb : G.blt[i]? = some x) (hv : bootBuiltins x = some (.type T)) (ha : SA G call C (e :: es) ms)
    (he : ∀ env, starEach (e :: es) env = (false, eval e env) :: starEach es env := by intro _; rfl) (hpl : ∀ env, (backTo pos (starEach es env)).any (·.1) = false := by intro _; rfl) : SE G call C (.Call (.Name x p) (e :: es) [] pos) (cN f ms) := fun X ok => by
  obtain ⟨g1, g2⟩ := ok.gl hg
  exact pe_mono (pe_callTy (hc X ok) g1 (ok.blt i x hb) hv (ha X ok) (okName_name g2) (okName_debug g2) (he _) (hpl _)) fun σ H Q h => rdN (hf X) h
end
section
variable {K : PySem.W.Frag} {F H : Hp}
theorem Views.nil {vs : List V} (h : Views K F H [] vs) : vs = [] := h
theorem Views.one {d : D} {vs : List V} (h : Views K F H [d] vs) : ∃ v, vs = [v] ∧ View K F H d v := by
  obtain ⟨v, r, rfl, h1, h2⟩ := h; cases h2.nil; exact ⟨v, rfl, h1⟩
theorem Views.two {d d' : D} {vs : List V} (h : Views K F H [d, d'] vs) : ∃ v w, vs = [v, w] ∧ View K F H d v ∧ View K F H d' w := by
  obtain ⟨v, r, rfl, h1, h2⟩ := h; obtain ⟨w, rfl, h3⟩ := Views.one h2; exact ⟨v, w, rfl, h1, h3⟩
end
/-! ### len -/
def lenD : List D → SR
  | [.str z] => if z.length ≤ sizeLine then .d (.int z.length) else .no
  | [.tup ds] => .d (.int ds.length)
  | [.lst ds] => .d (.int ds.length)
  | [.scr ds] => .d (.int ds.length)
  | [.dic ds] => .d (.int ds.length)
  | _ => .no
theorem len_rule (X : Cx) (F H : Hp) (ds : List D) (vs : List V) (Q : VK) (s : Same F H) (hv : Views X.K F H ds vs) (h : SRok X.K F H Q (lenD ds)) :
    (∃ x n, vs = [x] ∧ LenV X.K x H n ∧ Q (.int n) H) ∨ (∃ a kvs, vs = [V.ref a] ∧ H a = some (.dK kvs) ∧ Q (.int kvs.length) H) := by
  unfold lenD at h
  split at h
  · split at h
    · obtain ⟨v, rfl, h1⟩ := hv.one; obtain rfl := h1.str
      exact .inl ⟨_, _, rfl, ⟨by assumption, rfl⟩, h.int⟩
    · exact h.elim
  · obtain ⟨v, rfl, h1⟩ := hv.one; obtain ⟨a, ws, rfl, _, q, r⟩ := h1.tup s
    exact .inl ⟨_, _, rfl, .inr ⟨ws, q, r.length⟩, h.int⟩
  · obtain ⟨v, rfl, h1⟩ := hv.one; obtain ⟨a, ws, rfl, q, r⟩ := h1.lst s
    exact .inl ⟨_, _, rfl, .inl ⟨ws, SqL.of q, r.length⟩, h.int⟩
  · obtain ⟨v, rfl, h1⟩ := hv.one; obtain ⟨a, ws, rfl, q, r⟩ := h1.scr s
    exact .inl ⟨_, _, rfl, .inl ⟨ws, q, r.length⟩, h.int⟩
  · obtain ⟨v, rfl, h1⟩ := hv.one; obtain ⟨a, ws, rfl, q, r⟩ := h1.dic s
    exact .inr ⟨a, ws, rfl, q, by rw [← r.length]; exact h.int⟩
  · exact h.elim
/-! ### int, abs, min, max -/
def intD : List D → SR
  | [.int i] => .d (.int i)
  | [.bl b] => .d (.int (if b then 1 else 0))
  | _ => .no
theorem int_rule (X : Cx) (F H : Hp) (ds : List D) (vs : List V) (Q : VK) (s : Same F H) (hv : Views X.K F H ds vs) (h : SRok X.K F H Q (intD ds)) :
    (∃ i, vs = [.int i] ∧ Q (.int i) H) ∨ ∃ k, vs = [.bl k] ∧ Q (.int (if k then 1 else 0)) H := by
  unfold intD at h
  split at h
  · obtain ⟨v, rfl, h1⟩ := hv.one; obtain rfl := h1.int; exact .inl ⟨_, rfl, h.int⟩
  · obtain ⟨v, rfl, h1⟩ := hv.one; obtain rfl := h1.bl; exact .inr ⟨_, rfl, h.int⟩
  · exact h.elim
def absD : List D → SR
  | [.int i] => .d (.int (if i < 0 then -i else i))
  | _ => .no
theorem abs_rule (X : Cx) (F H : Hp) (ds : List D) (vs : List V) (Q : VK) (s : Same F H) (hv : Views X.K F H ds vs) (h : SRok X.K F H Q (absD ds)) :
    ∃ i, vs = [.int i] ∧ Q (.int (if i < 0 then -i else i)) H := by
  unfold absD at h
  split at h
  · obtain ⟨v, rfl, h1⟩ := hv.one; obtain rfl := h1.int; exact ⟨_, rfl, h.int⟩
  · exact h.elim
def min2D : List D → SR
  | [.int i, .int j] => .d (.int (if j < i then j else i))
  | _ => .no
def max2D : List D → SR
  | [.int i, .int j] => .d (.int (if j > i then j else i))
  | _ => .no
theorem min2_rule (X : Cx) (F H : Hp) (ds : List D) (vs : List V) (Q : VK) (s : Same F H) (hv : Views X.K F H ds vs) (h : SRok X.K F H Q (min2D ds)) :
    ∃ i j, vs = [.int i, .int j] ∧ Q (.int (if j < i then j else i)) H := by
  unfold min2D at h
  split at h
  · obtain ⟨v, w, rfl, h1, h2⟩ := hv.two; obtain rfl := h1.int; obtain rfl := h2.int; exact ⟨_, _, rfl, h.int⟩
  · exact h.elim
theorem max2_rule (X : Cx) (F H : Hp) (ds : List D) (vs : List V) (Q : VK) (s : Same F H) (hv : Views X.K F H ds vs) (h : SRok X.K F H Q (max2D ds)) :
    ∃ i j, vs = [.int i, .int j] ∧ Q (.int (if j > i then j else i)) H := by
  unfold max2D at h
  split at h
  · obtain ⟨v, w, rfl, h1, h2⟩ := hv.two; obtain rfl := h1.int; obtain rfl := h2.int; exact ⟨_, _, rfl, h.int⟩
  · exact h.elim
/-! ### isinstance by one built-in class -/
def tyName : D → Option String
  | .non => some "NoneType"
  | .bl _ => some "bool"
  | .int _ => some "int"
  | .str _ => some "str"
  | .tup _ => some "tuple"
  | .lst _ => some "list"
  | .scr _ => some "list"
  | .dic _ => some "dict"
  | .dit _ => some "dict"
  | _ => none
def isiD : List D → SR
  | [d, .ty n] => match tyName d with
    | some t => (match kitB t n with
      | some b => .d (.bl b)
      | none => .no)
    | none => .no
  | _ => .no
theorem tyX_of {K : PySem.W.Frag} {F H : Hp} {d : D} {x : V} {t : String} (s : Same F H) (h : View K F H d x) (ht : tyName d = some t) : TyX K H x (.type t) := by
  cases d with
  | non => cases ht; rw [h.non]; exact .base .non
  | bl b => cases ht; rw [h.bl]; exact .base (.bl _)
  | int i => cases ht; rw [h.int]; exact .base (.int _)
  | str z => cases ht; rw [h.str]; exact .base (.str _)
  | tup ds =>
    cases ht
    obtain ⟨a, vs, rfl, q, _⟩ := h.tup s
    rcases q with ⟨o, q, q2, q3⟩ | ⟨o, its, n, a1, a2, _⟩
    · exact .fTuple (s _ _ q)
    · exact .kTuple a1 a2
  | lst ds => cases ht; obtain ⟨a, vs, rfl, q, _⟩ := h.lst s; exact .base (.lst q)
  | scr ds =>
    cases ht
    obtain ⟨a, vs, rfl, q, _⟩ := h.scr s
    rcases q with (q | ⟨o, q⟩) | ⟨o, its, n, a1, a2, _⟩
    · exact .base (.lst q)
    · exact .base (.frz q)
    · exact .kList a1 a2
  | dic ds => cases ht; obtain ⟨a, vs, rfl, q, _⟩ := h.dic s; exact .base (.dK q)
  | dit ds => cases ht; obtain ⟨a, vs, rfl, q, _⟩ := h.dit s; exact .base (.dT q)
  | pr ds => cases ht
  | ty n => cases ht
theorem isi_rule (X : Cx) (F H : Hp) (ds : List D) (vs : List V) (Q : VK) (s : Same F H) (hv : Views X.K F H ds vs) (h : SRok X.K F H Q (isiD ds)) : rIsi X.K vs H Q := by
  unfold isiD at h
  split at h
  · split at h
    · split at h
      · obtain ⟨v, w, rfl, h1, h2⟩ := hv.two
        obtain rfl := h2.ty
        exact ⟨_, _, _, _, _, rfl, .ty _, tyX_of s h1 (by assumption), kit_ty (by assumption), h.bl⟩
      · exact h.elim
    · exact h.elim
  · exact h.elim
/-! ### list, tuple, dict, sorted -/
def listOf : List D → SR
  | [.tup ds] => .ob (.lst ds)
  | [.lst ds] => .ob (.lst ds)
  | [.scr ds] => .ob (.lst ds)
  | [.dic kvs] => .ob (.lst (kvs.map fun kv => match kv.1 with | .inl i => .int i | .inr z => .str z))
  | _ => .no
theorem keys_reps {K : PySem.W.Frag} {F : Hp} : ∀ {kvs : List (Key × D)} {vs : List (Key × V)}, RepsK K F kvs vs → Reps K F (kvs.map fun kv => match kv.1 with | .inl i => D.int i | .inr z => D.str z) (vs.map fun kv => kV kv.1)
  | [], vs, h => by rw [RepsK] at h; subst h; simp [Reps]
  | (k, d) :: ds, vs, h => by
    rw [RepsK] at h; obtain ⟨v, r, rfl, a, b⟩ := h
    simp only [List.map_cons]
    refine Reps.cons ?_ (keys_reps b)
    cases k <;> (rw [Rep]; rfl)
theorem list_rule (X : Cx) (F H : Hp) (ds : List D) (vs : List V) (Q : VK) (s : Same F H) (hv : Views X.K F H ds vs) (h : SRok X.K F H Q (listOf ds)) :
    (∃ p ys, vs = [.ref p] ∧ (SqL X.K H p ys ∨ SqT X.K H p ys) ∧ ∀ l, H l = none → Q (.ref l) (upd H l (.lst ys))) ∨
      (∃ (a : Addr) (kvs : List (Key × V)), vs = [.ref a] ∧ Rd H a (.dK kvs) ∧ ∀ p, H p = none → Q (.ref p) (upd H p (.lst (kvs.map fun kv => kV kv.1)))) := by
  unfold listOf at h
  split at h
  · obtain ⟨v, rfl, h1⟩ := hv.one; obtain ⟨a, ws, rfl, _, q, r⟩ := h1.tup s
    exact .inl ⟨_, _, rfl, .inr q, fun l hl => h l _ hl ⟨_, rfl, r⟩⟩
  · obtain ⟨v, rfl, h1⟩ := hv.one; obtain ⟨a, ws, rfl, q, r⟩ := h1.lst s
    exact .inl ⟨_, _, rfl, .inl (SqL.of q), fun l hl => h l _ hl ⟨_, rfl, r⟩⟩
  · obtain ⟨v, rfl, h1⟩ := hv.one; obtain ⟨a, ws, rfl, q, r⟩ := h1.scr s
    exact .inl ⟨_, _, rfl, .inl q, fun l hl => h l _ hl ⟨_, rfl, r⟩⟩
  · obtain ⟨v, rfl, h1⟩ := hv.one; obtain ⟨a, ws, rfl, q, r⟩ := h1.dic s
    exact .inr ⟨_, _, rfl, .of q, fun l hl => h l _ hl ⟨_, rfl, keys_reps r⟩⟩
  · exact h.elim
def tupOf : List D → SR
  | [.tup ds] => .d (.tup ds)
  | [.lst ds] => .nt ds
  | [.scr ds] => .nt ds
  | _ => .no
theorem tup_rule (X : Cx) (F H : Hp) (ds : List D) (vs : List V) (Q : VK) (s : Same F H) (hv : Views X.K F H ds vs) (h : SRok X.K F H Q (tupOf ds)) :
    ∃ p ys, vs = [.ref p] ∧ ((SqL X.K H p ys ∧ NewT H Q ys) ∨ (SqT X.K H p ys ∧ Q (.ref p) H)) := by
  unfold tupOf at h
  split at h
  · obtain ⟨v, rfl, h1⟩ := hv.one
    obtain ⟨a, ws, rfl, q0, q, r⟩ := h1.tup s
    exact ⟨_, _, rfl, .inr ⟨q, h _ (by rw [Rep]; exact ⟨a, ws, rfl, q0, r⟩)⟩⟩
  · obtain ⟨v, rfl, h1⟩ := hv.one; obtain ⟨a, ws, rfl, q, r⟩ := h1.lst s
    exact ⟨_, _, rfl, .inl ⟨SqL.of q, h.2 _ r⟩⟩
  · obtain ⟨v, rfl, h1⟩ := hv.one; obtain ⟨a, ws, rfl, q, r⟩ := h1.scr s
    exact ⟨_, _, rfl, .inl ⟨q, h.2 _ r⟩⟩
  · exact h.elim
def pairD : D → Option (Key × D)
  | .tup [k, v] => (keyD k).map fun k => (k, v)
  | .pr [k, v] => (keyD k).map fun k => (k, v)
  | _ => none
def pairsD : List D → Option (List (Key × D))
  | [] => some []
  | d :: ds => match pairD d, pairsD ds with
    | some p, some ps => some (p :: ps)
    | _, _ => none
theorem rep_key {K : PySem.W.Frag} {F : Hp} {d : D} {x : V} {k : Key} (h : Rep K F d x) (hk : keyD d = some k) : x = kV k := View.key (H := F) (.inl h) hk
theorem pairD_of {K : PySem.W.Frag} {F : Hp} {d : D} {v : V} {p : Key × D} (h : Rep K F d v) (hp : pairD d = some p) : ∃ a w, v = .ref a ∧ SqT K F a [kV p.1, w] ∧ Rep K F p.2 w := by
  unfold pairD at hp
  split at hp
  · rename_i k w
    cases hk : keyD k with
    | none => rw [hk] at hp; cases hp
    | some k' =>
      rw [hk] at hp; cases hp
      rw [Rep] at h
      obtain ⟨a, vs, rfl, q, r⟩ := h
      rw [Reps] at r; obtain ⟨x, r2, rfl, hx, r⟩ := r
      rw [Reps] at r; obtain ⟨y, r3, rfl, hy, r⟩ := r
      rw [Reps] at r; subst r
      obtain rfl := rep_key hx hk
      exact ⟨a, y, rfl, q.sq, hy⟩
  · rename_i k w
    cases hk : keyD k with
    | none => rw [hk] at hp; cases hp
    | some k' =>
      rw [hk] at hp; cases hp
      rw [Rep] at h
      obtain ⟨a, vs, rfl, q, r⟩ := h
      rw [Reps] at r; obtain ⟨x, r2, rfl, hx, r⟩ := r
      rw [Reps] at r; obtain ⟨y, r3, rfl, hy, r⟩ := r
      rw [Reps] at r; subst r
      obtain rfl := rep_key hx hk
      exact ⟨a, y, rfl, q, hy⟩
  · cases hp
theorem pairsD_of {K : PySem.W.Frag} {F H : Hp} (s : Same F H) : ∀ {ds : List D} {vs : List V} {kvs : List (Key × D)}, Reps K F ds vs → pairsD ds = some kvs →
    ∃ (ps : List Addr) (kv : List (Key × V)), vs = ps.map V.ref ∧ Paired (fun p kv => SqT K H p [kV kv.1, kv.2]) ps kv ∧ RepsK K F kvs kv
  | [], vs, kvs, h, q => by rw [Reps] at h; subst h; cases q; exact ⟨[], [], rfl, .nil, by rw [RepsK]⟩
  | d :: ds, vs, kvs, h, q => by
    rw [Reps] at h
    obtain ⟨v, r, rfl, h1, h2⟩ := h
    unfold pairsD at q
    cases hp : pairD d with
    | none => rw [hp] at q; cases q
    | some p =>
      cases hq : pairsD ds with
      | none => rw [hp, hq] at q; cases q
      | some ps =>
        rw [hp, hq] at q; cases q
        obtain ⟨a, w, rfl, z1, z2⟩ := pairD_of h1 hp
        obtain ⟨as, kv, rfl, y1, y2⟩ := pairsD_of s h2 hq
        exact ⟨a :: as, (p.1, w) :: kv, rfl, .cons (sqT_mono s z1) y1, by obtain ⟨k, d'⟩ := p; rw [RepsK]; exact ⟨w, kv, rfl, z2, y2⟩⟩
def dictOf : List D → SR
  | [.dic kvs] => .ob (.dic kvs)
  | [.lst ds] => match pairsD ds with
    | some kvs => .ob (.dic (mergeD [] kvs))
    | none => .no
  | [.scr ds] => match pairsD ds with
    | some kvs => .ob (.dic (mergeD [] kvs))
    | none => .no
  | [.tup ds] => match pairsD ds with
    | some kvs => .ob (.dic (mergeD [] kvs))
    | none => .no
  | _ => .no
section
variable {X : Cx} {pins : List (Addr × Obj)} {σ : L2.St} {H : Hp} {s : Shared}
theorem pairs_of2 (I : Inv X pins σ H s) : ∀ {ps : List Addr} {kvs : List (Key × V)}, Paired (fun p kv => SqT X.K H p [kV kv.1, kv.2]) ps kvs →
    ∃ (prs : List (Key × Value)) (us : List (Value × Value)), KV kvs prs ∧ prs.length = ps.length ∧ us.length = ps.length ∧
      ∀ (j : Nat) (q : Value × Value), us[j]? = some q → ∃ (b : Addr) (k : Key), ps[j]? = some b ∧ IsTup s.heap b #[q.1, q.2] ∧ prs[j]? = some (k, q.2) ∧ keyIs k q.1 = true
  | _, _, .nil => ⟨[], [], .nil, rfl, rfl, fun j q e => by simp at e⟩
  | _, _, .cons (a := p) (b := kv) h t => by
    obtain ⟨prs, us, r, hl, hl2, hp⟩ := pairs_of2 I t
    obtain ⟨its, rv, ht, _⟩ := I.tuple h
    obtain ⟨u, y, ei, ru, ry⟩ := vals2 rv
    subst ei
    refine ⟨(kv.1, y) :: prs, (u, y) :: us, .cons ⟨rfl, ry⟩ r, by rw [List.length_cons, List.length_cons, hl], by rw [List.length_cons, List.length_cons, hl2], fun j q e => ?_⟩
    cases j with
    | zero =>
      have e' : (u, y) = q := Option.some.inj e
      subst e'
      exact ⟨p, kv.1, rfl, ht, rfl, kV_is (P := X.prog) (w := X.w) ru⟩
    | succ j =>
      obtain ⟨b, k, e1, e2, e3, e4⟩ := hp j q (by simpa using e)
      exact ⟨b, k, by simpa using e1, e2, by simpa using e3, e4⟩
theorem plain_at {a : Addr} {xs : List V} (I : Inv X pins σ H s) (h : PlT X.K H a xs) : ∃ its : List Value, Vals xs its ∧ PlainSeq "tuple" s.heap a its.toArray ∧ xs.length ≤ sizeLine := by
  rcases h with ⟨o, h, hc, hd⟩ | ⟨o, its, n, hk, hc, hd, hs, hz, r⟩
  · obtain ⟨ho, hz, its, r, q⟩ := I.hok a _ h
    obtain ⟨o', h1, h2, n, h3⟩ := q
    rw [ho] at h1; cases h1
    exact ⟨its, r, ⟨_, n, ho, hc, hd, h3⟩, hz⟩
  · refine ⟨its.toList, r, ⟨o, n, I.kIn a o hk, hc, hd, by simpa using hs⟩, ?_⟩
    have e := r.length
    simp only [Array.length_toList] at e
    omega
theorem call_dictT (hcalm : X.calm = true) : CallR X (.type "dict") (fun xs H Q => ∃ (a : Addr) (ps : List Addr) (kvs : List (Key × V)), xs = [.ref a] ∧ PlT X.K H a (ps.map V.ref) ∧ Paired (fun p kv => SqT X.K H p [kV kv.1, kv.2]) ps kvs ∧
    ∀ p, H p = none → Q (.ref p) (upd H p (.dK (mergeK [] kvs)))) := by
  intro pins s σ H xs us Q I r q
  obtain ⟨a, ps, kvs, ex, hq, hp, q⟩ := q
  subst ex
  obtain ⟨u, eu, rx⟩ := vals1 r
  subst eu
  cases rx
  obtain ⟨its, rv, pl, hz⟩ := plain_at I hq
  have ei := refs_at rv
  subst ei
  rw [List.length_map] at hz
  obtain ⟨prs, us, rel, hl, hl2, hpr⟩ := pairs_of2 I hp
  refine PySem.call_dict_pairs (knd := mixKind X.prog X.w) (kvs := prs) (PairArg.tuple a (ps.map Value.ref).toArray (fun j => ps.getD j 0) us) (I.ok.hd hcalm) ⟨pl, ?_, ?_⟩ ⟨?_, ?_⟩ (by omega) ?_
  · simp [hl2]
  · intro j k v e
    obtain ⟨b, k', e1, e2, e3, e4⟩ := hpr j (k, v) e
    have e5 : ps.getD j 0 = b := by rw [List.getD_eq_getElem?_getD, e1]; rfl
    refine ⟨by simp [e1, e5], .inl ?_⟩
    simp only [e5]
    exact e2
  · omega
  · intro i key v e
    obtain ⟨b, k', e1, e2, e3, e4⟩ := hpr i (key, v) e
    exact ⟨k', e3, e4⟩
  · intro h' tk hd' k
    have hm : (s.heap.objs.size == sysModules) = false := beq_eq_false_iff_ne.mpr (Nat.ne_of_gt I.big)
    have hlen : (mergeK [] kvs).length ≤ sizeLine := by
      refine Nat.le_trans (length_mergeK kvs []) ?_
      rw [List.length_nil, Nat.zero_add, rel.length, hl]
      exact hz
    exact ⟨.ref s.heap.objs.size, upd H s.heap.objs.size (.dK (mergeK [] kvs)), I.laid (t' := tk) (fun b o e => k b o (by simp) e) (Nat.le_refl _) (show ObjOk X.prog X.w _ _ _ (.dK (mergeK [] kvs)) from ⟨hlen, hm, merged [] prs, KV.merge rel .nil, hd'⟩), rfl, q _ (I.hok.fresh (Nat.le_refl _))⟩
end
def rDict (X : Cx) : List V → Hp → VK → Prop := fun xs H Q =>
  ((∃ (a : Addr) (kvs : List (Key × V)), xs = [.ref a] ∧ Rd H a (.dK kvs) ∧ ∀ p, H p = none → Q (.ref p) (upd H p (.dK kvs))) ∨
  (∃ (a : Addr) (ps : List Addr) (kvs : List (Key × V)), xs = [.ref a] ∧ SqL X.K H a (ps.map V.ref) ∧ Paired (fun p kv => SqT X.K H p [kV kv.1, kv.2]) ps kvs ∧ ∀ p, H p = none → Q (.ref p) (upd H p (.dK (mergeK [] kvs))))) ∨
  (∃ (a : Addr) (ps : List Addr) (kvs : List (Key × V)), xs = [.ref a] ∧ PlT X.K H a (ps.map V.ref) ∧ Paired (fun p kv => SqT X.K H p [kV kv.1, kv.2]) ps kvs ∧ ∀ p, H p = none → Q (.ref p) (upd H p (.dK (mergeK [] kvs))))
theorem call_dictAny {X : Cx} (hc : X.calm = true) : CallR X (.type "dict") (rDict X) := CallR.or (CallR.or call_dictD (call_dictP hc)) (call_dictT hc)
theorem dict_rule (X : Cx) (F H : Hp) (ds : List D) (vs : List V) (Q : VK) (s : Same F H) (hv : Views X.K F H ds vs) (h : SRok X.K F H Q (dictOf ds)) : rDict X vs H Q := by
  unfold dictOf at h
  split at h
  · obtain ⟨v, rfl, h1⟩ := hv.one; obtain ⟨a, ws, rfl, q, r⟩ := h1.dic s
    exact .inl (.inl ⟨a, ws, rfl, .of q, fun p hp => h p _ hp ⟨_, rfl, r⟩⟩)
  · obtain ⟨v, rfl, h1⟩ := hv.one; obtain ⟨a, ws, rfl, q, r⟩ := h1.lst s
    split at h
    · obtain ⟨ps, kv, rfl, z1, z2⟩ := pairsD_of s r (by assumption)
      exact .inl (.inr ⟨a, ps, kv, rfl, SqL.of q, z1, fun p hp => h p _ hp ⟨_, rfl, z2.merge RepsK.nil⟩⟩)
    · exact h.elim
  · obtain ⟨v, rfl, h1⟩ := hv.one; obtain ⟨a, ws, rfl, q, r⟩ := h1.scr s
    split at h
    · obtain ⟨ps, kv, rfl, z1, z2⟩ := pairsD_of s r (by assumption)
      exact .inl (.inr ⟨a, ps, kv, rfl, q, z1, fun p hp => h p _ hp ⟨_, rfl, z2.merge RepsK.nil⟩⟩)
    · exact h.elim
  · obtain ⟨v, rfl, h1⟩ := hv.one; obtain ⟨a, ws, rfl, q0, q, r⟩ := h1.tup s
    split at h
    · obtain ⟨ps, kv, rfl, z1, z2⟩ := pairsD_of s r (by assumption)
      exact .inr ⟨a, ps, kv, rfl, q0.mono s, z1, fun p hp => h p _ hp ⟨_, rfl, z2.merge RepsK.nil⟩⟩
    · exact h.elim
  · exact h.elim
end PV

/-! ### sorted(tuple of texts) -/
namespace PV
open PySem PySem.Spec L2 PyProof PyProof.Rows
section
variable {prog : Program} {w : World} {A : Around} {E : Value → Shared → Prop} {s : Shared}
theorem collect_tup {l : Addr} {vs : List Value} {Q : List Value → Shared → Prop} (hl : s.heap.IsTuple l vs.toArray)
    (h : Q vs { s with heap := (s.heap.push (seqObj "list" #[] 0)).update s.heap.objs.size (Obj.mapSeq (· ++ vs.toArray)) }) (hsz : vs.length ≤ sizeLine := by size_fits) :
    wpAny (model prog w) A (collect (.ref l)) Q E s := by
  obtain ⟨o, ho, hc, n, hd⟩ := id hl
  unfold collect
  refine wpAny_bind (wpAny_runValue (codeAny_builtin entry_proto_collect' ?_))
  show wpAny _ _ (do again (.builtin "list.__iadd__" ⟨[← newList [], .ref l], []⟩)) _ _ s
  refine wpAny_bind (wpAny_newList (wpAny_pure ⟨Code.quiet_builtin _ (by decide +kernel), codeAny_builtin entry_list_iadd' ?_⟩))
  show wpAny _ _ (Builtin.List.listExtendWith (.ref s.heap.objs.size) (.ref l) (.ref s.heap.objs.size)) _ _ { s with heap := s.heap.push (seqObj "list" #[] 0) }
  unfold Builtin.List.listExtendWith
  have ho' : (s.heap.push (seqObj "list" #[] 0)).get? l = some o := Heap.get?_push_of_some _ ho
  refine wpAny_bind (wpAny_typeOf (T := "tuple") ⟨o, ho', hc⟩ ?_)
  have htt : (Value.type "tuple" == Value.type "tuple") = true := by rfl
  rw [if_pos (by rw [htt]; simp)]
  refine wpAny_bind (listItems_at ho' hd ?_)
  refine wpAny_bind (listItems_at (xs := #[]) (n := 0) (Heap.get?_push_size _ rfl) rfl ?_)
  rw [if_neg (by simp)]
  refine wpAny_bind (listUpdate_at (xs := #[]) (n := 0) (Heap.get?_push_size _ rfl) rfl ?_ (Nat.zero_le _) (by show (#[] ++ vs.toArray).size ≤ sizeLine + 1; simp only [Array.size_append, List.size_toArray, List.length_nil]; omega))
  refine wpAny_pure ?_
  show wpAny (model prog w) A (do
      let o ← load s.heap.objs.size
      match o.data with
      | .seq xs _ => pure xs.toList
      | _ => unsupported "internal:collect") Q E { s with heap := (s.heap.push (seqObj "list" #[] 0)).update s.heap.objs.size (Obj.mapSeq (· ++ vs.toArray)) }
  refine wpAny_bind (wpAny_load (get?_update_seq (Heap.get?_push_size _ rfl) _) ?_)
  show wpAny _ _ (pure ((#[] : Array Value) ++ vs.toArray).toList) Q E _
  rw [show ((#[] : Array Value) ++ vs.toArray).toList = vs by simp]
  exact wpAny_pure h
theorem sortedKT {κ : KeyKind} (hO : κ.OneLt) {l : Addr} {vs : List Value} {Q : Value → Shared → Prop} (hl : s.heap.IsTuple l vs.toArray) (h0 : KeysOf κ (pairsOf vs)) (hkk : ∀ v₁ v₂ rest, vs = v₁ :: v₂ :: rest → keyKind' (v₁ :: v₂ :: rest).toArray = pure oneType') (h64 : vs.length < 64)
    (h : ∀ st' : SortSt, (arrOf st').Perm (pairsOf vs) → SortedToK κ (arrOf st') (pairsOf vs).size → Q (.ref (s.heap.objs.size + 1)) { s with heap := sortedAll s.heap vs ((arrOf st').map (·.2)) }) :
    wpAny (model prog w) A (call (.builtin "sorted") [.ref l]) Q E s := by
  refine Calls.call_function_entry kind_sorted plain_sorted entry_sorted (args_sorted1 _) ?_
  unfold Builtin.«sorted»
  refine wpAny_bind (m := checkCount "sorted" 1 1 _) (wpAny_pure ?_)
  refine wpAny_bind (collect_tup hl ?_ (small64 h64))
  refine wpAny_bind (wpAny_newList ?_)
  have hsz : ((s.heap.push (seqObj "list" #[] 0)).update s.heap.objs.size (Obj.mapSeq (· ++ vs.toArray))).objs.size = s.heap.objs.size + 1 := by
    rw [Heap.size_update, size_push']
  have hoL : (((s.heap.push (seqObj "list" #[] 0)).update s.heap.objs.size (Obj.mapSeq (· ++ vs.toArray))).push (seqObj "list" vs.toArray 0)).get? (s.heap.objs.size + 1) = some (seqObj "list" vs.toArray 0) := by
    rw [← hsz]; exact Heap.get?_push_size _ rfl
  show wpAny _ _ _ _ _ { s with heap := ((s.heap.push (seqObj "list" #[] 0)).update s.heap.objs.size (Obj.mapSeq (· ++ vs.toArray))).push (seqObj "list" vs.toArray 0) }
  rw [hsz]
  refine wpAny_bind (wpAny_holding (wpAny_call_entry slot_list_sort ⟨_, hoL, rfl⟩ entry_list_sort (list_sort_treeK hO hoL h0 hkk h64 fun st' a1 a2 => ⟨_, rfl, ?_⟩) (args_list_sort _)))
  exact wpAny_pure ⟨_, rfl, h st' a1 a2⟩
theorem sorted_strsT {l : Addr} {vs : List Value} {ss : List Str} {Q : Value → Shared → Prop} (hl : s.heap.IsTuple l vs.toArray) (hS : StrsAre vs ss) (h64 : vs.length < 64)
    (h : ∀ (out : Array Value) (ss' : List Str), StrsAre out.toList ss' → ss'.Perm ss → sortedS ss' = true → Q (.ref (s.heap.objs.size + 1)) { s with heap := sortedAll s.heap vs out }) :
    wpAny (model prog w) A (call (.builtin "sorted") [.ref l]) Q E s := by
  refine sortedKT strKind_oneLt hl hS.keysOf (fun v₁ v₂ rest e => keyKind_strs (by rw [← e]; exact hS)) h64 fun st' hp hs => ?_
  obtain ⟨ss', h1, h2, h3⟩ := sorted_out_str hS hp hs
  exact h _ ss' h1 h2 h3
end
def rSortedST (K : PySem.W.Frag) : List V → Hp → VK → Prop := fun vs H Q => ∃ (a : Addr) (xs : List Str), vs = [V.ref a] ∧ SqT K H a (xs.map V.str) ∧ xs.length < 64 ∧
  ∀ (ys : List Str) (p : Addr), ys.Perm xs → sortedS ys = true → H p = none → Q (.ref p) (upd H p (.lst (ys.map V.str)))
theorem cr_sortedST {X : Cx} : CallR X (.builtin "sorted") (rSortedST X.K) := by
  intro pins s σ H vs us Q I r h
  obtain ⟨a, xs, rfl, hs, h64, q⟩ := h
  obtain ⟨its, rv, hl, _⟩ := I.tuple hs
  rw [Vals.ref1 r]
  have hlen0 := rv.length
  rw [List.length_map] at hlen0
  refine sorted_strsT hl rv.strs (by rw [← hlen0]; exact h64) fun out ys h1 h2 h3 => ?_
  obtain ⟨ep, he'⟩ := PyProof.Rows.sortedAll_at s.heap its out
  have hlen : (ys.map V.str).length ≤ sizeLine := by rw [List.length_map, h2.length_eq]; exact small64 h64
  exact ⟨.ref _, upd H (s.heap.objs.size + 1) (.lst (ys.map V.str)), I.laid (t' := s.toks) (fun _ _ => PyProof.Rows.sortedAll_old) (Nat.le_succ _) ⟨hlen, out.toList, ep, vals_of_strs h1, he'⟩, rfl, q ys _ h2 h3 (I.hok.fresh (Nat.le_succ _))⟩
end PV

namespace PV
open PySem PySem.Spec L2 PyProof.Rows
/-! ### sorted -/
def leS (a b : Str) : Bool := !ltCps b.cps.toList a.cps.toList
theorem leS_iff {a b : Str} : leS a b = true ↔ a.cps.toList ≤ b.cps.toList := by
  unfold leS; rw [ltCps_eq]; simp
theorem leS_trans (a b c : Str) (h : leS a b = true) (q : leS b c = true) : leS a c = true := by
  rw [leS_iff] at *; exact List.le_trans h q
theorem leS_total (a b : Str) : (leS a b || leS b a) = true := by
  rw [Bool.or_eq_true, leS_iff, leS_iff]; exact List.le_total _ _
theorem leS_anti (a b : Str) (h : leS a b = true) (q : leS b a = true) : a = b := by
  rw [leS_iff] at *
  have e := List.le_antisymm h q
  obtain ⟨x⟩ := a; obtain ⟨y⟩ := b
  simpa using e
def sortS (l : List Str) : List Str := l.mergeSort leS
theorem risingS_pw : ∀ (p : Str) (l : List Str), risingS p l = true → (p :: l).Pairwise (fun a b => leS a b = true)
  | p, [], _ => by simp
  | p, x :: r, h => by
    simp only [risingS, Bool.and_eq_true] at h
    have i := risingS_pw x r h.2
    refine List.pairwise_cons.mpr ⟨?_, i⟩
    intro y hy
    have hx : leS p x = true := h.1
    rcases List.mem_cons.mp hy with e | e
    · rw [e]; exact hx
    · exact leS_trans _ _ _ hx (List.rel_of_pairwise_cons i e)
theorem sortedS_pw : ∀ (l : List Str), sortedS l = true → l.Pairwise (fun a b => leS a b = true)
  | [], _ => by simp
  | x :: r, h => risingS_pw x r h
theorem sortS_perm (l : List Str) : (sortS l).Perm l := List.mergeSort_perm l leS
theorem sortS_pw (l : List Str) : (sortS l).Pairwise (fun a b => leS a b = true) := List.pairwise_mergeSort leS_trans leS_total l
theorem sortS_eq {l ys : List Str} (h : ys.Perm l) (q : sortedS ys = true) : ys = sortS l :=
  List.Perm.eq_of_pairwise (fun a b _ _ => leS_anti a b) (sortedS_pw ys q) (sortS_pw l) (h.trans (sortS_perm l).symm)
def sortI (l : List Int) : List Int := l.mergeSort fun a b => decide (a ≤ b)
theorem sortI_perm (l : List Int) : (sortI l).Perm l := List.mergeSort_perm l _
theorem sortI_pw (l : List Int) : (sortI l).Pairwise (· ≤ ·) := by
  have := List.pairwise_mergeSort (le := fun a b : Int => decide (a ≤ b)) (fun a b c h q => by simp at *; omega) (fun a b => by simp; omega) l
  exact this.imp fun h => by simpa using h
theorem sortI_eq {l ys : List Int} (h : ys.Perm l) (q : ys.Pairwise (· ≤ ·)) : ys = sortI l :=
  List.Perm.eq_of_pairwise (fun a b _ _ x y => by omega) q (sortI_pw l) (h.trans (sortI_perm l).symm)
def strsD : List D → Option (List Str)
  | [] => some []
  | .str z :: ds => (strsD ds).map (z :: ·)
  | _ => none
def intsD : List D → Option (List Int)
  | [] => some []
  | .int z :: ds => (intsD ds).map (z :: ·)
  | _ => none
theorem strsD_eq : ∀ {ds : List D} {zs : List Str}, strsD ds = some zs → ds = zs.map D.str
  | [], zs, h => by cases h; rfl
  | d :: ds, zs, h => by
    cases d <;> simp only [strsD, Option.map_eq_some_iff, reduceCtorEq] at h
    obtain ⟨r, h1, rfl⟩ := h
    rw [strsD_eq h1]; rfl
theorem intsD_eq : ∀ {ds : List D} {zs : List Int}, intsD ds = some zs → ds = zs.map D.int
  | [], zs, h => by cases h; rfl
  | d :: ds, zs, h => by
    cases d <;> simp only [intsD, Option.map_eq_some_iff, reduceCtorEq] at h
    obtain ⟨r, h1, rfl⟩ := h
    rw [intsD_eq h1]; rfl
theorem reps_strs {K : PySem.W.Frag} {F : Hp} : ∀ {zs : List Str} {vs : List V}, Reps K F (zs.map D.str) vs → vs = zs.map V.str
  | [], vs, h => by simpa [Reps] using h
  | z :: zs, vs, h => by
    rw [List.map_cons, Reps] at h; obtain ⟨v, r, rfl, h1, h2⟩ := h
    rw [Rep] at h1; rw [reps_strs h2, h1]; rfl
theorem reps_ints {K : PySem.W.Frag} {F : Hp} : ∀ {zs : List Int} {vs : List V}, Reps K F (zs.map D.int) vs → vs = zs.map V.int
  | [], vs, h => by simpa [Reps] using h
  | z :: zs, vs, h => by
    rw [List.map_cons, Reps] at h; obtain ⟨v, r, rfl, h1, h2⟩ := h
    rw [Rep] at h1; rw [reps_ints h2, h1]; rfl
theorem strs_reps {K : PySem.W.Frag} {F : Hp} : ∀ (zs : List Str), Reps K F (zs.map D.str) (zs.map V.str)
  | [] => by simp [Reps]
  | z :: zs => Reps.cons (by rw [Rep]) (strs_reps zs)
theorem ints_reps {K : PySem.W.Frag} {F : Hp} : ∀ (zs : List Int), Reps K F (zs.map D.int) (zs.map V.int)
  | [] => by simp [Reps]
  | z :: zs => Reps.cons (by rw [Rep]) (ints_reps zs)
def strKeys : List (Key × D) → Option (List Str)
  | [] => some []
  | (.inr z, _) :: r => (strKeys r).map (z :: ·)
  | _ => none
theorem strKeys_eq : ∀ {kvs : List (Key × D)} {zs : List Str}, strKeys kvs = some zs → kvs.map (·.1) = zs.map Sum.inr
  | [], zs, h => by cases h; rfl
  | (k, d) :: r, zs, h => by
    cases k <;> simp only [strKeys, Option.map_eq_some_iff, reduceCtorEq] at h
    obtain ⟨q, h1, rfl⟩ := h
    simp [strKeys_eq h1]
def sortList (ds : List D) : SR := match strsD ds with
  | some zs => if zs.length < 64 then .ob (.lst ((sortS zs).map D.str)) else .no
  | none => match intsD ds with
    | some zs => .ob (.lst ((sortI zs).map D.int))
    | none => .no
def sortedOf : List D → SR
  | [.dic kvs] => match strKeys kvs with
    | some zs => if zs.length < 64 then .ob (.lst ((sortS zs).map D.str)) else .no
    | none => .no
  | [.lst ds] => sortList ds
  | [.scr ds] => sortList ds
  | [.tup ds] => match strsD ds with
    | some zs => if zs.length < 64 then .ob (.lst ((sortS zs).map D.str)) else .no
    | none => .no
  | _ => .no
def rSorts0 (X : Cx) : List V → Hp → VK → Prop := fun xs H Q =>
  ((∃ (a : Addr) (kvs : List (Key × V)) (ks : List Str), xs = [.ref a] ∧ Rd H a (.dK kvs) ∧ kvs.map (·.1) = ks.map Sum.inr ∧ ks.length < 64 ∧
    ∀ ys p, ys.Perm ks → sortedS ys = true → H p = none → Q (.ref p) (upd H p (.lst (ys.map V.str)))) ∨ rSortedS X.K xs H Q) ∨ rSortedI X.K xs H Q
def rSorts (X : Cx) : List V → Hp → VK → Prop := fun xs H Q => rSorts0 X xs H Q ∨ rSortedST X.K xs H Q
theorem call_sorts {X : Cx} (hc : X.calm = true) : CallR X (.builtin "sorted") (rSorts X) := CallR.or (CallR.or (CallR.or (call_sortedD hc) cr_sortedS) cr_sortedI) cr_sortedST
theorem sortList_rule {X : Cx} {F H : Hp} {ds : List D} {vs : List V} {a : Addr} {Q : VK} (q : SqL X.K H a vs) (r : Reps X.K F ds vs) (h : SRok X.K F H Q (sortList ds)) : rSorts0 X [.ref a] H Q := by
  unfold sortList at h
  split at h
  · rename_i zs hz
    split at h
    · obtain rfl := strsD_eq hz
      obtain rfl := reps_strs r
      refine .inl (.inr ⟨a, zs, rfl, q, by assumption, fun ys p h1 h2 h3 => ?_⟩)
      rw [sortS_eq h1 h2]
      exact h p _ h3 ⟨_, rfl, strs_reps _⟩
    · exact h.elim
  · split at h
    · rename_i zs hz
      obtain rfl := intsD_eq hz
      obtain rfl := reps_ints r
      refine .inr ⟨a, zs, rfl, q, fun ys p h1 h2 h3 => ?_⟩
      rw [sortI_eq h1 h2]
      exact h p _ h3 ⟨_, rfl, ints_reps _⟩
    · exact h.elim
theorem sorted_rule (X : Cx) (F H : Hp) (ds : List D) (vs : List V) (Q : VK) (s : Same F H) (hv : Views X.K F H ds vs) (h : SRok X.K F H Q (sortedOf ds)) : rSorts X vs H Q := by
  unfold sortedOf at h
  split at h
  · obtain ⟨v, rfl, h1⟩ := hv.one; obtain ⟨a, ws, rfl, q, r⟩ := h1.dic s
    split at h
    · rename_i zs hz
      split at h
      · refine .inl (.inl (.inl ⟨a, ws, zs, rfl, .of q, by rw [r.keys]; exact strKeys_eq hz, by assumption, fun ys p h1 h2 h3 => ?_⟩))
        rw [sortS_eq h1 h2]
        exact h p _ h3 ⟨_, rfl, strs_reps _⟩
      · exact h.elim
    · exact h.elim
  · obtain ⟨v, rfl, h1⟩ := hv.one; obtain ⟨a, ws, rfl, q, r⟩ := h1.lst s
    exact .inl (sortList_rule (.of q) r h)
  · obtain ⟨v, rfl, h1⟩ := hv.one; obtain ⟨a, ws, rfl, q, r⟩ := h1.scr s
    exact .inl (sortList_rule q r h)
  · obtain ⟨v, rfl, h1⟩ := hv.one; obtain ⟨a, ws, rfl, q0, q, r⟩ := h1.tup s
    split at h
    · rename_i zs hz
      split at h
      · obtain rfl := strsD_eq hz
        obtain rfl := reps_strs r
        refine .inr ⟨a, zs, rfl, q, by assumption, fun ys p h1 h2 h3 => ?_⟩
        rw [sortS_eq h1 h2]
        exact h p _ h3 ⟨_, rfl, strs_reps _⟩
      · exact h.elim
    · exact h.elim
  · exact h.elim
/-! ### d.get(k, x) -/
def kindOf (T : D → Bool) (r : Rv) : M Unit := fun e => match r.view e with
  | some d => if T d = true then .ok () e else .stuck
  | none => .stuck
def getD1 : D → D → SR
  | .dic kvs, k => match keyD k with
    | some k => .d ((valD kvs k).getD .non)
    | none => .no
  | _, _ => .no
def getD2 : D → D → D → SR
  | .dic kvs, k, x => match keyD k with
    | some k => .d ((valD kvs k).getD x)
    | none => .no
  | _, _, _ => .no
def cGet2 (m mk mx : M Rv) : M Rv := bnd (cOp m) fun r => bnd (kindOf isDic r) fun _ => bnd (cOp mk) fun k => bnd (cVal mx) fun x e => match r.view e, k.view e with
  | some a, some b => cSR (getD2 a b x) e
  | _, _ => .stuck
def cGet1 (m mk : M Rv) : M Rv := bnd (cOp m) fun r => bnd (kindOf isDic r) fun _ => bnd (cOp mk) fun k e => match r.view e, k.view e with
  | some a, some b => cSR (getD1 a b) e
  | _, _ => .stuck
theorem kind_post {α : Type} {K : PySem.W.Frag} {g : Gh} {F H : Hp} {e : En} {σ : L2.St} {T : D → Bool} {r : Rv} {v : V} {f : Unit → M α} {P : α → En → Prop} (R : Rel K g F e σ H) (ok : OpOk K F σ r v) (q : (bnd (kindOf T r) f e).post P NoX) :
    ∃ d, View K F H d v ∧ T d = true ∧ (f () e).post P NoX := by
  have q := post_bnd.mp q
  unfold kindOf at q
  cases hv : r.view e with
  | none => rw [hv] at q; exact q.elim
  | some d =>
    rw [hv] at q
    simp only at q
    by_cases ht : T d = true
    · rw [if_pos ht] at q; exact ⟨d, ok.view R hv, ht, q⟩
    · rw [if_neg ht] at q; exact q.elim
theorem isD_view {K : PySem.W.Frag} {F H : Hp} {d : D} {x : V} (s : Same F H) (h : View K F H d x) (hd : isDic d = true) : ∃ a, x = .ref a ∧ IsD H a := by
  cases d <;> simp [isDic] at hd
  obtain ⟨a, vs, rfl, q, _⟩ := h.dic s
  exact ⟨a, rfl, .inl ⟨vs, .of q⟩⟩
section
variable {G : Prg} {call : Nat → FSem} {C : Cxt}
theorem SE.get2 {o e f : Expr} {m mk mx : M Rv} {apos cpos : Pos} (ho : SE G call C o m) (he : SE G call C e mk) (hf : SE G call C f mx) (hM : ∀ X : Cx, M2 X o "get" apos e f cpos := by intro X; exact ⟨rfl, rfl, rfl, rfl⟩) :
    SE G call C (.Call (.Attribute o "get" apos) [e, f] [] cpos) (cGet2 m mk mx) := fun X ok => pe_mono (pe_dget2 (hu_of ok.room) (ho X ok) (he X ok) (hf X ok) (hM X)) fun σ H Q h => by
  obtain ⟨g, F, e, R, h⟩ := h
  refine rdO_bnd R h fun rv e1 v F1 H1 s1 R1 ok1 h1 => ?_
  obtain ⟨d, w, hd, h1⟩ := kind_post R1 ok1 h1
  obtain ⟨a, rfl, qd⟩ := isD_view R1.sub w hd
  refine ⟨a, rfl, qd, ?_⟩
  refine rdO_bnd R1 h1 fun rk e2 u F2 H2 s2 R2 ok2 h2 => ?_
  refine rdD ⟨g, F2, e2, R2, Out.post_imp (post_bnd.mp h2) ?_ (fun _ _ q => q)⟩
  intro d3 e3 h3 t F3 H3 s3 R3 v3
  cases hv : rv.view e3 with
  | none => rw [hv] at h3; exact h3.elim
  | some d1 =>
    cases hw : rk.view e3 with
    | none => rw [hv, hw] at h3; exact h3.elim
    | some d2 =>
      rw [hv, hw] at h3
      have v1 := ((ok1.mono s2).mono s3).view R3 hv
      have v2 := (ok2.mono s3).view R3 hw
      have h4 : SRok X.K F3 H3 Q (getD2 d1 d2 d3) := SRok.of R3 (Out.post_imp h3 (fun a e3 q2 v2 F3 H3 s4 => q2 v2 F3 H3 (((s1.trans s2).trans s3).trans s4)) (fun _ _ q => q))
      unfold getD2 at h4
      split at h4
      · rename_i kvs
        split at h4
        · rename_i k hk
          obtain ⟨a1, vs, ea, q1, r1⟩ := v1.dic R3.sub
          cases ea
          obtain rfl := v2.key hk
          refine ⟨valV vs k, DGet.k q1, ?_⟩
          cases hd : valD kvs k with
          | some dd =>
            obtain ⟨v, w1, w2⟩ := (r1.val k).1 _ hd
            rw [w1]
            rw [hd] at h4
            exact h4 _ w2
          | none =>
            rw [(r1.val k).2 hd]
            rw [hd] at h4
            exact h4 _ v3
        · exact h4.elim
      · exact h4.elim
theorem SE.get1 {o e : Expr} {m mk : M Rv} {apos cpos : Pos} (ho : SE G call C o m) (he : SE G call C e mk) (hM : ∀ X : Cx, M1 X o "get" apos e cpos := by intro X; exact ⟨rfl, rfl, rfl, rfl⟩) :
    SE G call C (.Call (.Attribute o "get" apos) [e] [] cpos) (cGet1 m mk) := fun X ok => pe_mono (pe_dget1 (hu_of ok.room) (ho X ok) (he X ok) (hM X)) fun σ H Q h => by
  obtain ⟨g, F, e, R, h⟩ := h
  refine rdO_bnd R h fun rv e1 v F1 H1 s1 R1 ok1 h1 => ?_
  obtain ⟨d, w, hd, h1⟩ := kind_post R1 ok1 h1
  obtain ⟨a, rfl, qd⟩ := isD_view R1.sub w hd
  refine ⟨a, rfl, qd, ?_⟩
  refine rdO_bnd R1 h1 fun rk e2 u F2 H2 s2 R2 ok2 h2 => ?_
  cases hv : rv.view e2 with
  | none => rw [hv] at h2; exact h2.elim
  | some d1 =>
    cases hw : rk.view e2 with
    | none => rw [hv, hw] at h2; exact h2.elim
    | some d2 =>
      rw [hv, hw] at h2
      have v1 := (ok1.mono s2).view R2 hv
      have v2 := ok2.view R2 hw
      have h4 : SRok X.K F2 H2 Q (getD1 d1 d2) := SRok.of R2 (Out.post_imp h2 (fun a e3 q2 v2 F3 H3 s4 => q2 v2 F3 H3 ((s1.trans s2).trans s4)) (fun _ _ q => q))
      unfold getD1 at h4
      split at h4
      · rename_i kvs
        split at h4
        · rename_i k hk
          obtain ⟨a1, vs, ea, q1, r1⟩ := v1.dic R2.sub
          cases ea
          obtain rfl := v2.key hk
          refine ⟨valV vs k, DGet.k q1, ?_⟩
          cases hd : valD kvs k with
          | some dd =>
            obtain ⟨v, w1, w2⟩ := (r1.val k).1 _ hd
            rw [w1]
            rw [hd] at h4
            exact h4 _ w2
          | none =>
            rw [(r1.val k).2 hd]
            rw [hd] at h4
            exact h4 _ (by show Rep _ _ .non .non; rw [Rep])
        · exact h4.elim
      · exact h4.elim
end
end PV

namespace PV
open PySem PySem.Spec L2 PyProof.Rows
/-! ### 14. own objects written -/
def obTy : Ob → String
  | .lst _ => "list"
  | .dic _ => "dict"
  | .dit _ => "dict"
def ownTy (i : Nat) (T : String) : M Unit := fun e => match e[i]? with
  | some (.ow o) => if obTy o = T then .ok () e else .stuck
  | some (.io o) => if obTy o = T then .ok () e else .stuck
  | _ => .stuck
def ownAny (i : Nat) : M Unit := fun e => match e[i]? with
  | some (.ow o) => .ok () e
  | some (.io o) => .ok () e
  | _ => .stuck
def wrM {α : Type} (i : Nat) (f : Ob → Option (α × Ob)) : M α := fun e => match e[i]? with
  | some (.ow o) => match f o with
    | some (r, u) => .ok r (e.set i (.ow u))
    | none => .stuck
  | some (.io o) => match f o with
    | some (r, u) => .ok r (e.set i (.io u))
    | none => .stuck
  | _ => .stuck
theorem wrM_post {α : Type} {i : Nat} {f : Ob → Option (α × Ob)} {e : En} {P : α → En → Prop} (h : (wrM i f e).post P NoX) : ∃ s o r u t, e[i]? = some s ∧ s.own = some o ∧ f o = some (r, u) ∧ Wr s o u t ∧ P r (e.set i t) := by
  unfold wrM at h
  split at h
  · rename_i o hi
    split at h
    · rename_i r u hf
      exact ⟨_, o, r, u, _, hi, rfl, hf, .ow o u, h⟩
    · exact h.elim
  · rename_i o hi
    split at h
    · rename_i r u hf
      exact ⟨_, o, r, u, _, hi, rfl, hf, .io o u, h⟩
    · exact h.elim
  · exact h.elim
theorem ownTy_post {i : Nat} {T : String} {e : En} {P : Unit → En → Prop} (h : (ownTy i T e).post P NoX) : ∃ s o, e[i]? = some s ∧ s.own = some o ∧ obTy o = T ∧ P () e := by
  unfold ownTy at h
  split at h
  · split at h
    · exact ⟨_, _, by assumption, rfl, by assumption, h⟩
    · exact h.elim
  · split at h
    · exact ⟨_, _, by assumption, rfl, by assumption, h⟩
    · exact h.elim
  · exact h.elim
theorem ownAny_post {i : Nat} {e : En} {P : Unit → En → Prop} (h : (ownAny i e).post P NoX) : ∃ s o, e[i]? = some s ∧ s.own = some o ∧ P () e := by
  unfold ownAny at h
  split at h
  · exact ⟨_, _, by assumption, rfl, h⟩
  · exact ⟨_, _, by assumption, rfl, h⟩
  · exact h.elim
/-! ### x[k] = v -/
def setOb (k v : D) : Ob → Option (Unit × Ob)
  | .dic kvs => match keyD k with
    | some k => if kvs.length < sizeLine then some ((), .dic (putD kvs k v)) else none
    | none => none
  | .lst ds => match k with
    | .int j => match ixN ds.length j with
      | some j => some ((), .lst (ds.set j v))
      | none => none
    | _ => none
  | _ => none
def sSet (i : Nat) (mk mv : M Rv) : M Fl := bnd (cVal mv) fun d => bnd (ownAny i) fun _ => bnd (cVal mk) fun k => bnd (wrM i (setOb k d)) fun _ => ret .nx
theorem PSet.or {X : Cx} {t u : TSet} (h : PSet X t) (q : PSet X u) : PSet X (fun o i v H Q => t o i v H Q ∨ u o i v H Q) := fun pins s σ H o i v ov iv w Q I r1 r2 r3 z => z.elim (h pins s σ H o i v ov iv w Q I r1 r2 r3) (q pins s σ H o i v ov iv w Q I r1 r2 r3)
section
variable {G : Prg} {call : Nat → FSem} {C : Cxt}
theorem SS.set {i : Nat} {x : Str} {k v : Expr} {mk mv : M Rv} {xpos spos pos : Pos} (hN : C.N[i]? = some x) (hvs : C.vs[i]? = some true) (hk : SE G call C k mk) (hv : SE G call C v mv)
    (hs : ∀ env, swapsWithSole [.Subscript (.Name x xpos) k spos] v pos.line env = pure false := by intro _; rfl) (hw : ∀ env, swappedStores [.Subscript (.Name x xpos) k spos] v env = pure none := by intro _; rfl)
    (h1 : ∀ env, (assignEach [.Subscript (.Name x xpos) k spos] env).map (·.2) = [assign (.Subscript (.Name x xpos) k spos) env] := by intro _; rfl)
    (ha : ∀ env v, assign (.Subscript (.Name x xpos) k spos) env v = (do
      let ov ← holding [v] (eval (.Name x xpos) env)
      let iv ← holding [v, ov] (eval k env)
      standAt spos
      holding [v, ov, iv] (setItem ov iv v)
      release [v, ov, iv] []) := by intro _ _; rfl) : SS G call C (.Assign [.Subscript (.Name x xpos) k spos] v pos) (sSet i mk mv) := fun X ok => by
  obtain ⟨v1, v2⟩ := ok.vis hN hvs
  refine ps_mono (ps_asg (hv X ok) (pg_sub (pe_var (i := i) (by rw [ok.N]; exact hN) v1 (okName_debug v2) (okName_classdict v2)) (hk X ok) (PSet.or set_list (set_dict (hu_of ok.room))) (ha _)) (hs _) (hw _) (h1 _)) fun D σ H h => ?_
  obtain ⟨g, F, e, R, h⟩ := h
  refine rdD ⟨g, F, e, R, Out.post_imp (post_bnd.mp h) ?_ (fun _ _ q => q)⟩
  intro d e1 q v F1 H1 s1 R1 rv
  obtain ⟨s, o, q1, q2, q⟩ := ownAny_post (post_bnd.mp q)
  obtain ⟨a, a1, a2, a3⟩ := R1.ownAt q1 q2
  refine ⟨_, a1, ?_⟩
  refine rdD ⟨g, F1, e1, R1, Out.post_imp (post_bnd.mp q) ?_ (fun _ _ q => q)⟩
  intro kd e2 q kv F2 H2 s2 R2 rk
  obtain ⟨s', o', r, u, t, w1, w2, w3, w4, q⟩ := wrM_post (post_bnd.mp q)
  obtain ⟨b, b1, b2, b3⟩ := R2.ownAt w1 w2
  rw [a1] at b1; cases b1
  have go : ∀ y : HO, ObAt X.K F2 (some y) u → D.nx σ (upd H2 a y) := fun y hy => q σ F2 _ (s1.trans s2) (R2.write w4 w1 a1 hy)
  unfold setOb at w3
  split at w3
  · rename_i kvs
    split at w3
    · rename_i kk hkk
      split at w3
      · cases w3
        obtain ⟨vs, e1, e2⟩ := b2
        obtain rfl := rep_key rk hkk
        refine .inr ⟨a, _, rfl, DPut.k e1 (by rw [← e2.length]; assumption), ?_⟩
        exact go _ ⟨_, rfl, e2.put kk (rv.mono s2)⟩
      · cases w3
    · cases w3
  · rename_i ds
    split at w3
    · rename_i j
      split at w3
      · rename_i j' hj
        cases w3
        obtain ⟨vs, e1, e2⟩ := b2
        rw [Rep] at rk; subst rk
        rw [e2.length] at hj
        exact .inl ⟨a, vs, j, j', rfl, rfl, e1, hj, go _ ⟨_, rfl, e2.set j' (rv.mono s2)⟩⟩
      · cases w3
    · cases w3
  · cases w3
/-! ### x.m(..) that writes x -/
def cMut (i : Nat) (T : String) (f : List D → Ob → Option (D × Ob)) (ms : List (M Rv)) : M Rv := bnd (ownTy i T) fun _ => bnd (takeAll ms) fun ds => bnd (wrM i (f ds)) fun d => ret (.v d)
theorem tyV_ob {K : PySem.W.Frag} {F H : Hp} {a : Addr} {o : Ob} (h : ObAt K F (H a) o) : tyV K (obTy o) (.ref a) H := by
  cases o with
  | lst ds => obtain ⟨vs, e, _⟩ := h; exact .inl ⟨rfl, vs, SqL.of e⟩
  | dic ds => obtain ⟨vs, e, _⟩ := h; exact .inr (.inr (.inl ⟨rfl, .inl ⟨vs, e⟩⟩))
  | dit ds => obtain ⟨vs, e, _⟩ := h; exact .inr (.inr (.inl ⟨rfl, .inr ⟨vs, e⟩⟩))
/-- what is asked of such a method -/
def MutOk (f : List D → Ob → Option (D × Ob)) (rr : V → List V → Hp → VK → Prop) : Prop := ∀ (K : PySem.W.Frag) (F H : Hp) (a : Addr) (o u : Ob) (ds : List D) (vs : List V) (r : D) (Q : VK), Same F H → F a = none → ObAt K F (H a) o → Reps K F ds vs → f ds o = some (r, u) →
  (∀ (y : HO) (v : V), ObAt K F (some y) u → Rep K F r v → Q v (upd H a y)) → rr (.ref a) vs H Q
theorem SE.mut {T id : String} {name : Str} {rr : Cx → V → List V → Hp → VK → Prop} {f : List D → Ob → Option (D × Ob)} (pa : PlainAttrs T) (slot : PySem.Slot T name id) (hty : typeOf (.builtin id) = pure (.type "method_descriptor"))
    (hm : ∀ X, XOk G call C X → MtR X id (rr X)) (hf : ∀ X, MutOk f (rr X)) {i : Nat} {x : Str} {e : Expr} {es : List Expr} {ms : List (M Rv)} {xpos apos cpos : Pos} (hN : C.N[i]? = some x) (hvs : C.vs[i]? = some true) (ha : SL G call C (e :: es) ms)
    (hbase : ∀ env, attributeBase (.Name x xpos) name env (eval (.Name x xpos) env) = eval (.Name x xpos) env := by intro _; rfl)
    (hfew : ∀ env, ((backTo cpos (starEach (e :: es) env)).all (fun x => !x.1) && (backToKw cpos (keywordEach [] env)).all (fun x => x.1.isSome)
      && decide ((e :: es).length + ([] : List Keyword).length + (if ([] : List Keyword).isEmpty then 0 else 1) < 30)) = true := by intro _; rfl)
    (hline : (apos.endLine == cpos.line) = true := by rfl) (hs : ∀ env, starEach (e :: es) env = (false, eval e env) :: starEach es env := by intro _; rfl) (hplain : ∀ env, (backTo cpos (starEach es env)).any (·.1) = false := by intro _; rfl) :
    SE G call C (.Call (.Attribute (.Name x xpos) name apos) (e :: es) [] cpos) (cMut i T f ms) := fun X ok => by
  obtain ⟨v1, v2⟩ := ok.vis hN hvs
  refine pe_mono (pe_bm pa slot hty (hm X ok) (pe_var (i := i) (by rw [ok.N]; exact hN) v1 (okName_debug v2) (okName_classdict v2)) (ha X ok) (hbase _) (hfew _) hline (hs _) (hplain _)) fun σ H Q h => ?_
  obtain ⟨g, F, e, R, h⟩ := h
  obtain ⟨s, o, q1, q2, q3, q⟩ := ownTy_post (post_bnd.mp h)
  obtain ⟨a, a1, a2, a3⟩ := R.ownAt q1 q2
  refine ⟨_, a1, by rw [← q3]; exact tyV_ob a2, ?_⟩
  refine ⟨g, F, e, R, Out.post_imp (post_bnd.mp q) ?_ (fun _ _ q => q)⟩
  intro ds e2 q vs F2 H2 s2 R2 rv
  obtain ⟨s', o', r, u, t, w1, w2, w3, w4, q⟩ := wrM_post (post_bnd.mp q)
  obtain ⟨b, b1, b2, b3⟩ := R2.ownAt w1 w2
  rw [a1] at b1; cases b1
  refine hf X X.K F2 H2 a o' u ds vs r Q R2.sub b3 b2 rv w3 fun y v hy hr => ?_
  exact q v F2 _ s2 (R2.write w4 w1 a1 hy) hr
theorem SE.mut0 {T id : String} {name : Str} {rr : Cx → V → List V → Hp → VK → Prop} {f : List D → Ob → Option (D × Ob)} (pa : PlainAttrs T) (slot : PySem.Slot T name id) (hty : typeOf (.builtin id) = pure (.type "method_descriptor"))
    (hm : ∀ X, XOk G call C X → MtR X id (rr X)) (hf : ∀ X, MutOk f (rr X)) {i : Nat} {x : Str} {xpos apos cpos : Pos} (hN : C.N[i]? = some x) (hvs : C.vs[i]? = some true)
    (hbase : ∀ env, attributeBase (.Name x xpos) name env (eval (.Name x xpos) env) = eval (.Name x xpos) env := by intro _; rfl) (hline : (apos.endLine == cpos.line) = true := by rfl) :
    SE G call C (.Call (.Attribute (.Name x xpos) name apos) [] [] cpos) (cMut i T f []) := fun X ok => by
  obtain ⟨v1, v2⟩ := ok.vis hN hvs
  refine pe_mono (pe_bm0 pa slot hty (hm X ok) (pe_var (i := i) (by rw [ok.N]; exact hN) v1 (okName_debug v2) (okName_classdict v2)) (hbase _) hline) fun σ H Q h => ?_
  obtain ⟨g, F, e, R, h⟩ := h
  obtain ⟨s, o, q1, q2, q3, q⟩ := ownTy_post (post_bnd.mp h)
  obtain ⟨a, a1, a2, a3⟩ := R.ownAt q1 q2
  refine ⟨_, a1, by rw [← q3]; exact tyV_ob a2, ?_⟩
  have q : ((bnd (wrM i (f [])) fun d => ret (Rv.v d)) e).post (fun r e' => ∀ v F' H', Same F F' → Rel X.K g F' e' σ H' → RvOk X.K g F' H' e' σ r v → Q v H') NoX := q
  obtain ⟨s', o', r, u, t, w1, w2, w3, w4, q⟩ := wrM_post (post_bnd.mp q)
  obtain ⟨b, b1, b2, b3⟩ := R.ownAt w1 w2
  rw [a1] at b1; cases b1
  refine hf X X.K F H a o' u [] [] r Q R.sub b3 b2 Reps.nil w3 fun y v hy hr => ?_
  exact q v F _ (Same.refl F) (R.write w4 w1 a1 hy) hr
end
def appF : List D → Ob → Option (D × Ob)
  | [d], .lst ds => if ds.length < sizeLine then some (.non, .lst (ds ++ [d])) else none
  | _, _ => none
theorem app_ok : MutOk appF rAppend := by
  intro K F H a o u ds vs r Q s hF ho hv hf q
  unfold appF at hf
  split at hf
  · split at hf
    · cases hf
      obtain ⟨xs, e1, e2⟩ := ho
      rw [Reps] at hv; obtain ⟨v, w, rfl, h1, h2⟩ := hv
      rw [Reps] at h2; subst h2
      exact ⟨a, xs, v, rfl, rfl, e1, by rw [← e2.length]; assumption, q _ _ ⟨_, rfl, e2.append (Reps.one h1)⟩ (by rw [Rep])⟩
    · cases hf
  · cases hf
def popF : List D → Ob → Option (D × Ob)
  | [], .lst ds => match ds[ds.length - 1]? with
    | some d => some (d, .lst ds.dropLast)
    | none => none
  | _, _ => none
theorem pop_ok : MutOk popF rPop := by
  intro K F H a o u ds vs r Q s hF ho hv hf q
  unfold popF at hf
  split at hf
  · split at hf
    · rename_i d hd
      cases hf
      obtain ⟨xs, e1, e2⟩ := ho
      rw [Reps] at hv; subst hv
      obtain ⟨v, z1, z2⟩ := e2.get hd
      exact ⟨a, xs, v, rfl, rfl, e1, by rw [← e2.length]; exact z1, q _ _ ⟨_, rfl, e2.dropLast⟩ z2⟩
    · cases hf
  · cases hf
def insF : List D → Ob → Option (D × Ob)
  | [.int i, d], .lst ds => if ds.length < sizeLine ∧ 0 ≤ i ∧ i < 2 ^ 63 then some (.non, .lst (ds.take i.toNat ++ [d] ++ ds.drop i.toNat)) else none
  | _, _ => none
theorem ins_ok : MutOk insF (fun x vs H Q => ∃ (l : Addr) (xs : List V) (i : Int) (y : V), x = .ref l ∧ vs = [.int i, y] ∧ H l = some (.lst xs) ∧ xs.length < sizeLine ∧ 0 ≤ i ∧ i < 2 ^ 63 ∧
    Q .non (upd H l (.lst (xs.take i.toNat ++ [y] ++ xs.drop i.toNat)))) := by
  intro K F H a o u ds vs r Q s hF ho hv hf q
  unfold insF at hf
  split at hf
  · split at hf
    · rename_i i d ds hc
      cases hf
      obtain ⟨xs, e1, e2⟩ := ho
      rw [Reps] at hv; obtain ⟨v, w, rfl, h1, h2⟩ := hv
      rw [Reps] at h2; obtain ⟨v2, w2, rfl, h3, h4⟩ := h2
      rw [Reps] at h4; subst h4
      rw [Rep] at h1; subst h1
      exact ⟨a, xs, i, v2, rfl, rfl, e1, by rw [← e2.length]; exact hc.1, hc.2.1, hc.2.2, q _ _ ⟨_, rfl, ((e2.take _).append (Reps.one h3)).append (e2.drop _)⟩ (by rw [Rep])⟩
    · cases hf
  · cases hf
/-- extend, the argument a list -/
def extF : List D → Ob → Option (D × Ob)
  | [.lst es], .lst ds => if ds.length + es.length ≤ sizeLine then some (.non, .lst (ds ++ es)) else none
  | _, _ => none
theorem ext_ok : MutOk extF rExtend := by
  intro K F H a o u ds vs r Q s hF ho hv hf q
  unfold extF at hf
  split at hf
  · split at hf
    · cases hf
      obtain ⟨xs, e1, e2⟩ := ho
      rw [Reps] at hv; obtain ⟨v, w, rfl, h1, h2⟩ := hv
      rw [Reps] at h2; subst h2
      rw [Rep] at h1
      obtain ⟨b, ws, rfl, b1, b2⟩ := h1
      exact ⟨a, b, xs, ws, rfl, rfl, e1, s _ _ b1, by rw [← e2.length, ← b2.length]; assumption, q _ _ ⟨_, rfl, e2.append b2⟩ (by rw [Rep])⟩
    · cases hf
  · cases hf
end PV

namespace PV
open PySem PySem.Spec L2 PyProof.Rows
/-! ### 15. the builtins by name -/
theorem bt_int : bootBuiltins ("int" : Str) = some (.type "int") := by decide +kernel
theorem bt_str : bootBuiltins ("str" : Str) = some (.type "str") := by decide +kernel
theorem bt_bool : bootBuiltins ("bool" : Str) = some (.type "bool") := by decide +kernel
theorem bt_list : bootBuiltins ("list" : Str) = some (.type "list") := by decide +kernel
theorem bt_tuple : bootBuiltins ("tuple" : Str) = some (.type "tuple") := by decide +kernel
theorem bt_dict : bootBuiltins ("dict" : Str) = some (.type "dict") := by decide +kernel
theorem bt_len : bootBuiltins ("len" : Str) = some (.builtin "len") := by decide +kernel
theorem bt_abs : bootBuiltins ("abs" : Str) = some (.builtin "abs") := by decide +kernel
theorem bt_min : bootBuiltins ("min" : Str) = some (.builtin "min") := by decide +kernel
theorem bt_max : bootBuiltins ("max" : Str) = some (.builtin "max") := by decide +kernel
theorem bt_sorted : bootBuiltins ("sorted" : Str) = some (.builtin "sorted") := by decide +kernel
theorem bt_isinstance : bootBuiltins ("isinstance" : Str) = some (.builtin "isinstance") := by decide +kernel
section
variable {G : Prg} {call : Nat → FSem} {C : Cxt} {i j : Nat} {e : Expr} {es : List Expr} {ms : List (M AV)} {p pos : Pos}
theorem SE.len (hg : C.gl[j]? = some ("len" : Str)) (hb : G.blt[i]? = some ("len" : Str)) (ha : SA G call C (e :: es) ms)
    (he : ∀ env, starEach (e :: es) env = (false, eval e env) :: starEach es env := by intro _; rfl) (hpl : ∀ env, (backTo pos (starEach es env)).any (·.1) = false := by intro _; rfl) : SE G call C (.Call (.Name "len" p) (e :: es) [] pos) (cN lenD ms) :=
  SE.callB (fun X ok => CallR.or call_len call_lenD) len_rule hg hb bt_len ha he hpl
theorem SE.abs (hg : C.gl[j]? = some ("abs" : Str)) (hb : G.blt[i]? = some ("abs" : Str)) (ha : SA G call C (e :: es) ms)
    (he : ∀ env, starEach (e :: es) env = (false, eval e env) :: starEach es env := by intro _; rfl) (hpl : ∀ env, (backTo pos (starEach es env)).any (·.1) = false := by intro _; rfl) : SE G call C (.Call (.Name "abs" p) (e :: es) [] pos) (cN absD ms) :=
  SE.callB (fun X ok => call_abs) abs_rule hg hb bt_abs ha he hpl
theorem SE.min2 (hg : C.gl[j]? = some ("min" : Str)) (hb : G.blt[i]? = some ("min" : Str)) (ha : SA G call C (e :: es) ms)
    (he : ∀ env, starEach (e :: es) env = (false, eval e env) :: starEach es env := by intro _; rfl) (hpl : ∀ env, (backTo pos (starEach es env)).any (·.1) = false := by intro _; rfl) : SE G call C (.Call (.Name "min" p) (e :: es) [] pos) (cN min2D ms) :=
  SE.callB (fun X ok => call_min2 ok.calm) min2_rule hg hb bt_min ha he hpl
theorem SE.max2 (hg : C.gl[j]? = some ("max" : Str)) (hb : G.blt[i]? = some ("max" : Str)) (ha : SA G call C (e :: es) ms)
    (he : ∀ env, starEach (e :: es) env = (false, eval e env) :: starEach es env := by intro _; rfl) (hpl : ∀ env, (backTo pos (starEach es env)).any (·.1) = false := by intro _; rfl) : SE G call C (.Call (.Name "max" p) (e :: es) [] pos) (cN max2D ms) :=
  SE.callB (fun X ok => call_max2 ok.calm) max2_rule hg hb bt_max ha he hpl
theorem SE.sorted (hg : C.gl[j]? = some ("sorted" : Str)) (hb : G.blt[i]? = some ("sorted" : Str)) (ha : SA G call C (e :: es) ms)
    (he : ∀ env, starEach (e :: es) env = (false, eval e env) :: starEach es env := by intro _; rfl) (hpl : ∀ env, (backTo pos (starEach es env)).any (·.1) = false := by intro _; rfl) : SE G call C (.Call (.Name "sorted" p) (e :: es) [] pos) (cN sortedOf ms) :=
  SE.callB (fun X ok => call_sorts ok.calm) sorted_rule hg hb bt_sorted ha he hpl
theorem SE.isi (hg : C.gl[j]? = some ("isinstance" : Str)) (hb : G.blt[i]? = some ("isinstance" : Str)) (ha : SA G call C (e :: es) ms)
    (he : ∀ env, starEach (e :: es) env = (false, eval e env) :: starEach es env := by intro _; rfl) (hpl : ∀ env, (backTo pos (starEach es env)).any (·.1) = false := by intro _; rfl) : SE G call C (.Call (.Name "isinstance" p) (e :: es) [] pos) (cN isiD ms) :=
  SE.callB (fun X ok => call_isi) isi_rule hg hb bt_isinstance ha he hpl
theorem SE.intOf (hg : C.gl[j]? = some ("int" : Str)) (hb : G.blt[i]? = some ("int" : Str)) (ha : SA G call C (e :: es) ms)
    (he : ∀ env, starEach (e :: es) env = (false, eval e env) :: starEach es env := by intro _; rfl) (hpl : ∀ env, (backTo pos (starEach es env)).any (·.1) = false := by intro _; rfl) : SE G call C (.Call (.Name "int" p) (e :: es) [] pos) (cN intD ms) :=
  SE.callT (fun X ok => call_int1) int_rule hg hb bt_int ha he hpl
theorem SE.listOf (hg : C.gl[j]? = some ("list" : Str)) (hb : G.blt[i]? = some ("list" : Str)) (ha : SA G call C (e :: es) ms)
    (he : ∀ env, starEach (e :: es) env = (false, eval e env) :: starEach es env := by intro _; rfl) (hpl : ∀ env, (backTo pos (starEach es env)).any (·.1) = false := by intro _; rfl) : SE G call C (.Call (.Name "list" p) (e :: es) [] pos) (cN PV.listOf ms) :=
  SE.callT (fun X ok => CallR.or call_list_of (call_listD ok.calm)) list_rule hg hb bt_list ha he hpl
theorem SE.tupOf (hg : C.gl[j]? = some ("tuple" : Str)) (hb : G.blt[i]? = some ("tuple" : Str)) (ha : SA G call C (e :: es) ms)
    (he : ∀ env, starEach (e :: es) env = (false, eval e env) :: starEach es env := by intro _; rfl) (hpl : ∀ env, (backTo pos (starEach es env)).any (·.1) = false := by intro _; rfl) : SE G call C (.Call (.Name "tuple" p) (e :: es) [] pos) (cN PV.tupOf ms) :=
  SE.callT (fun X ok => call_tupleN) tup_rule hg hb bt_tuple ha he hpl
theorem SE.dictOf (hg : C.gl[j]? = some ("dict" : Str)) (hb : G.blt[i]? = some ("dict" : Str)) (ha : SA G call C (e :: es) ms)
    (he : ∀ env, starEach (e :: es) env = (false, eval e env) :: starEach es env := by intro _; rfl) (hpl : ∀ env, (backTo pos (starEach es env)).any (·.1) = false := by intro _; rfl) : SE G call C (.Call (.Name "dict" p) (e :: es) [] pos) (cN PV.dictOf ms) :=
  SE.callT (fun X ok => call_dictAny ok.calm) dict_rule hg hb bt_dict ha he hpl
/-! ### the mutators by name -/
variable {x : Str} {ns : List (M Rv)} {xpos apos cpos : Pos}
theorem SE.append (hN : C.N[i]? = some x) (hvs : C.vs[i]? = some true) (ha : SL G call C (e :: es) ns)
    (hbase : ∀ env, attributeBase (.Name x xpos) "append" env (eval (.Name x xpos) env) = eval (.Name x xpos) env := by intro _; rfl)
    (hfew : ∀ env, ((backTo cpos (starEach (e :: es) env)).all (fun x => !x.1) && (backToKw cpos (keywordEach [] env)).all (fun x => x.1.isSome)
      && decide ((e :: es).length + ([] : List Keyword).length + (if ([] : List Keyword).isEmpty then 0 else 1) < 30)) = true := by intro _; rfl)
    (hline : (apos.endLine == cpos.line) = true := by rfl) (hs : ∀ env, starEach (e :: es) env = (false, eval e env) :: starEach es env := by intro _; rfl) (hplain : ∀ env, (backTo cpos (starEach es env)).any (·.1) = false := by intro _; rfl) :
    SE G call C (.Call (.Attribute (.Name x xpos) "append" apos) (e :: es) [] cpos) (cMut i "list" appF ns) :=
  SE.mut PySem.F.plainAttrs_list PySem.F.slot_list_append PySem.F.type_list_append (fun X ok => mt_append) (fun X => app_ok) hN hvs ha hbase hfew hline hs hplain
theorem SE.pop0 (hN : C.N[i]? = some x) (hvs : C.vs[i]? = some true)
    (hbase : ∀ env, attributeBase (.Name x xpos) "pop" env (eval (.Name x xpos) env) = eval (.Name x xpos) env := by intro _; rfl) (hline : (apos.endLine == cpos.line) = true := by rfl) :
    SE G call C (.Call (.Attribute (.Name x xpos) "pop" apos) [] [] cpos) (cMut i "list" popF []) :=
  SE.mut0 PySem.F.plainAttrs_list PySem.F.slot_list_pop PySem.F.type_list_pop (fun X ok => mt_pop) (fun X => pop_ok) hN hvs hbase hline
/-! ### comprehensions: the block's context by what it reads and stores -/
def Cxt.sub (C : Cxt) (scope : Scope) (vs st : List Bool) (gl : List Str) : Cxt := ⟨C.N, relS scope C.sc, vs, st, gl⟩
variable {elt tg iter c : Expr} {scope : Scope} {own : List (Str × Nat)} {ts : List Nat} {it : M (List D)} {f : D → M Unit} {m : M Rv} {t : M Bool} {spos py : Pos} {y : Str}
theorem SE.lc (own : List (Str × Nat)) (vs st : List Bool) (gl : List Str) (hi : SI G call C tg iter it) (hg : SG G call (C.sub scope vs st gl) tg ts f) (he : SE G call (C.sub scope vs st gl) elt m)
    (hk : compOk C (C.sub scope vs st gl) scope own ts = true := by decide +kernel)
    (hs : ∀ env x, foldedSetIterable iter env x = pure x := by intro _ _; rfl) : SE G call C (.ListComp elt [⟨tg, iter, [], 0⟩] scope pos) (cComp (own.map (·.2)) it f tYesM m) := SE.comp hk hi hg he hs
theorem SE.lcIf (own : List (Str × Nat)) (vs st : List Bool) (gl : List Str) (hi : SI G call C tg iter it) (hg : SG G call (C.sub scope vs st gl) tg ts f) (hc : ST G call (C.sub scope vs st gl) c t) (he : SE G call (C.sub scope vs st gl) elt m)
    (hk : compOk C (C.sub scope vs st gl) scope own ts = true := by decide +kernel)
    (hs : ∀ env x, foldedSetIterable iter env x = pure x := by intro _ _; rfl) : SE G call C (.ListComp elt [⟨tg, iter, [c], 0⟩] scope pos) (cComp (own.map (·.2)) it f t m) := SE.compIf hk hi hg hc he hs
theorem SS.setLc (own : List (Str × Nat)) (vs st : List Bool) (gl : List Str) (hi : SI G call C tg iter it) (hg : SG G call (C.sub scope vs st gl) tg ts f) (he : SE G call (C.sub scope vs st gl) elt m)
    (hN : C.N[i]? = some y) (hst : C.st[i]? = some true) (hy : C.sc.names.lookup y = some .local) (hkd : C.sc.kind = .function) (hl : (py.line == pos.line) = true) (ha : (scope.names.any fun (n, k) => n == y && (k == .local || k == .cell)) = false)
    (hk : compOk C (C.sub scope vs st gl) scope own ts = true := by decide +kernel)
    (hs : ∀ env x, foldedSetIterable iter env x = pure x := by intro _ _; rfl) : SS G call C (.Assign [.Name y py] (.ListComp elt [⟨tg, iter, [], 0⟩] scope pos) spos) (sAsg i (cComp (own.map (·.2)) it f tYesM m)) := SS.asgLc hk hi hg he hN hst hy hkd hl ha hs
theorem SS.setLcIf (own : List (Str × Nat)) (vs st : List Bool) (gl : List Str) (hi : SI G call C tg iter it) (hg : SG G call (C.sub scope vs st gl) tg ts f) (hc : ST G call (C.sub scope vs st gl) c t) (he : SE G call (C.sub scope vs st gl) elt m)
    (hN : C.N[i]? = some y) (hst : C.st[i]? = some true) (hy : C.sc.names.lookup y = some .local) (hkd : C.sc.kind = .function) (hl : (py.line == pos.line) = true) (ha : (scope.names.any fun (n, k) => n == y && (k == .local || k == .cell)) = false)
    (hk : compOk C (C.sub scope vs st gl) scope own ts = true := by decide +kernel)
    (hs : ∀ env x, foldedSetIterable iter env x = pure x := by intro _ _; rfl) : SS G call C (.Assign [.Name y py] (.ListComp elt [⟨tg, iter, [c], 0⟩] scope pos) spos) (sAsg i (cComp (own.map (·.2)) it f t m)) := SS.asgLcIf hk hi hg hc he hN hst hy hkd hl ha hs
end
/-! ### 16. the table of the defs -/
def runA (np n : Nat) (m : M Fl) : FSem := fun args => if args.length = np then runF n m args else .stuck
theorem spF_stuck {K : PySem.W.Frag} {vs : List V} {H : Hp} {Q : VK} {E : XK} : ¬ spF K (fun _ => .stuck) vs H Q E := by
  rintro ⟨F, args, p, h⟩
  exact h
theorem fn_zero {P : Program} {w : World} {K : PySem.W.Frag} {mg : Str → Option Value} {base : Heap} {f : Addr} {fd : FuncData} {ps : List Str} {k : Nat} : FnOk P w K mg base CX0 k f fd ps (spF K fun _ => .stuck) :=
  ⟨fun vs H Q E h => (spF_stuck h).elim, fun A outer s H args us vs Q E _ _ _ _ h => (spF_stuck h).elim⟩
theorem fn_okA {G : Prg} {call : Nat → FSem} {C : Cxt} {P : Program} {w : World} {K : PySem.W.Frag} {mg : Str → Option Value} {base : Heap} {x qual : Str} {st : Stmt} {f : Addr} {fd : FuncData} {ps : List Str} {k n np : Nat} {m : M Fl}
    (F : Fun K x qual st f fd) (S : FnScope C.N ps (defScope st)) (hsc : C.sc = defScope st) (hchk : C.chk = true) (hst : flagged (fun y => locB (defScope st) y) C.N C.st = true) (hb : SSs G call C (defBody st) m) (hn : n = C.N.length - ps.length) (hp : np = ps.length)
    (hfns : ∀ (i : Nat) (y : Str), G.names[i]? = some y → ∃ f' fd' ps', FnOk P w K mg base CX0 k f' fd' ps' (spF K (call i)) ∧ mg y = some (.ref f') ∧ PySem.W.keepIn K (.ref f') = true ∧ Binds K fd' ps' [])
    (hcons : ∀ (i : Nat) (y : Str) (d : D), G.cons[i]? = some (y, d) → ∃ u v, mg y = some u ∧ RelV v u ∧ ∀ F, Rep K F d v) (hblt : ∀ (i : Nat) (y : Str), G.blt[i]? = some y → mg y = none) :
    FnOk P w K mg base CX0 (k + 1) f fd ps (spF K (runA np n m)) := by
  subst hp
  have len : ∀ (vs : List V) (H : Hp) (Q : VK) (E : XK), spF K (runA ps.length n m) vs H Q E → vs.length = ps.length ∧ spF K (runF n m) vs H Q E := by
    rintro vs H Q E ⟨F0, args, p, h⟩
    unfold runA at h
    by_cases hl : args.length = ps.length
    · rw [if_pos hl] at h
      exact ⟨by rw [← p.len]; exact hl, F0, args, p, h⟩
    · rw [if_neg hl] at h
      exact h.elim
  have hle : ps.length ≤ C.N.length := by
    have := congrArg List.length S.pre
    rw [List.length_take] at this
    omega
  refine F.ok S (fun vs H Q E h => (len vs H Q E h).1) fun cdv A outer s H vs Q E hr h => ?_
  obtain ⟨hv, h⟩ := len vs H Q E h
  refine ⟨RdS K m, hb _ ?_, run_body (by omega) (by rw [hv]; exact hn) h⟩
  refine ⟨rfl, hsc.symm, rfl, hchk, ?_, PassesOwn.never, hr.mono (by omega), ?_, hcons, hblt⟩
  · intro i y h1 h2
    have q := flagged_get hst h1 h2
    refine ⟨?_, .inl rfl⟩
    unfold locB at q
    split at q
    · exact .inl (by assumption)
    · exact .inr (by assumption)
    · cases q
  · intro i y h1
    obtain ⟨f', fd', ps', a, b, c, d⟩ := hfns i y h1
    exact ⟨k, f', fd', ps', a, hr, b, c, d⟩
/-! ### the law's own promise -/
def spLaw (K : PySem.W.Frag) : Sp := fun vs H Q _ => ∃ (a : Addr) (ns : List Int), vs = [.ref a] ∧ SqL K H a (ns.map V.int) ∧ ns.length ≤ 63 ∧ ∀ H', Q (.bl true) H'
theorem spLaw_of {K : PySem.W.Frag} {sem : FSem} (h : ∀ ns : List Int, ns.length ≤ 63 → ∃ outs, sem [.fz (.scr (ns.map D.int))] = .ok (.v (.bl true)) outs) : ∀ vs H Q E, spLaw K vs H Q E → spF K sem vs H Q E := by
  rintro vs H Q E ⟨a, ns, rfl, hq, hl, q⟩
  obtain ⟨outs, e⟩ := h ns hl
  refine ⟨fun b => if b = a then H b else none, [.fz (.scr (ns.map D.int))], ⟨rfl, ?_, ?_, ?_⟩, ?_⟩
  · intro b o z
    simp only at z
    split at z
    · exact z
    · cases z
  · intro i p v h1 h2
    cases i with
    | zero =>
      cases h1; cases h2
      show Rep K _ (.scr _) _
      rw [Rep]
      refine ⟨a, ns.map V.int, rfl, ?_, ints_reps ns⟩
      rcases hq with (hq | ⟨o, hq⟩) | hq
      · exact .inl (.inl (by show (if a = a then H a else none) = _; rw [if_pos rfl]; exact hq))
      · exact .inl (.inr ⟨o, by show (if a = a then H a else none) = _; rw [if_pos rfl]; exact hq⟩)
      · exact .inr hq
    | succ i => simp at h1
  · rintro i j b ⟨⟨o, h1 | h1⟩, _⟩
    · cases i with
      | zero => cases h1
      | succ i => simp at h1
    · cases i with
      | zero => cases h1
      | succ i => simp at h1
  · rw [e]
    intro v F' H' p
    have r := p.ret
    simp only at r
    rw [Rep] at r
    rw [r]
    exact q H'
end PV

namespace PV
open PySem PySem.Spec L2 PyProof.Rows
/-! ### 17. the combinators at a frame, step by step (for simp) -/
def Out.bind {α β : Type} (o : Out α) (f : α → M β) : Out β := match o with
  | .ok a e => f a e
  | .exc x e => .exc x e
  | .stuck => .stuck
section
variable {α β : Type} {e : En} {i j : Nat} {d x y : D} {ob : Ob} {m n : M Rv} {ms : List (M AV)} {o p : Out α} {r : Rv}
theorem ob_congr {f : α → M β} (h : o = p) : o.bind f = p.bind f := by rw [h]
theorem ob_ok {a : α} {f : α → M β} : (Out.ok a e).bind f = f a e := (rfl)
theorem ob_stuck {f : α → M β} : (Out.stuck : Out α).bind f = .stuck := (rfl)
theorem ob_exc {z : Exc} {f : α → M β} : (Out.exc z e : Out α).bind f = .exc z e := (rfl)
theorem ap_ret {a : α} : ret a e = .ok a e := (rfl)
theorem ap_fail : (fail : M α) e = .stuck := (rfl)
theorem ap_bnd {m : M α} {f : α → M β} : bnd m f e = (m e).bind f := by unfold bnd Out.bind; rfl
/-- names -/
def varS (i : Nat) (s : Option Slot) : M Rv := fun e => match s with
  | some (.fz d) => .ok (.v d) e
  | some (.ow _) => .ok (.s i) e
  | some (.io _) => .ok (.s i) e
  | some (.bw _) => .ok (.s i) e
  | _ => .stuck
theorem ap_var : cVar i e = varS i e[i]? e := by unfold cVar varS; rfl
theorem var_fz : varS i (some (.fz d)) e = .ok (.v d) e := (rfl)
theorem var_ow : varS i (some (.ow ob)) e = .ok (.s i) e := (rfl)
theorem var_io : varS i (some (.io ob)) e = .ok (.s i) e := (rfl)
theorem var_bw : varS i (some (.bw ob)) e = .ok (.s i) e := (rfl)
theorem ap_K : cK d e = .ok (.v d) e := (rfl)
/-- operands -/
def opK : Rv → M Rv := fun r => match r with
  | .o ob => ret (.v ob.val)
  | r => ret r
theorem ap_op : cOp m e = (m e).bind opK := ap_bnd
theorem op_v : opK (.v d) e = .ok (.v d) e := (rfl)
theorem op_o : opK (.o ob) e = .ok (.v ob.val) e := (rfl)
theorem op_s : opK (.s i) e = .ok (.s i) e := (rfl)
theorem ap_val : cVal m e = (m e).bind takeRv := ap_bnd
def takeS (i : Nat) (s : Option Slot) : M D := fun e => match s with
  | some (.fz d) => .ok d e
  | some (.ow o) => .ok o.val (e.set i (.fz o.val))
  | _ => .stuck
theorem take_v : takeRv (.v d) e = .ok d e := (rfl)
theorem take_o : takeRv (.o ob) e = .ok ob.val e := (rfl)
theorem take_s : takeRv (.s i) e = takeS i e[i]? e := by unfold takeRv takeS; rfl
theorem takeS_fz : takeS i (some (.fz d)) e = .ok d e := (rfl)
theorem takeS_ow : takeS i (some (.ow ob)) e = .ok ob.val (e.set i (.fz ob.val)) := (rfl)
def viewS : Option Slot → Option D
  | some (.fz d) => some d
  | some s => s.own.map Ob.val
  | none => none
theorem view_v : Rv.view e (.v d) = some d := (rfl)
theorem view_o : Rv.view e (.o ob) = some ob.val := (rfl)
theorem view_s : Rv.view e (.s i) = viewS e[i]? := by unfold Rv.view viewAt viewS; rfl
theorem viewS_fz : viewS (some (.fz d)) = some d := (rfl)
theorem viewS_ow : viewS (some (.ow ob)) = some ob.val := (rfl)
theorem viewS_io : viewS (some (.io ob)) = some ob.val := (rfl)
theorem viewS_bw : viewS (some (.bw ob)) = some ob.val := (rfl)
theorem val_lst {ds : List D} : Ob.val (.lst ds) = .lst ds := (rfl)
theorem val_dic {ds : List (Key × D)} : Ob.val (.dic ds) = .dic ds := (rfl)
theorem val_dit {ds : List (List Key × D)} : Ob.val (.dit ds) = .dit ds := (rfl)
/-- results -/
theorem sr_d : cSR (.d x) e = .ok (.v x) e := (rfl)
theorem sr_nt {ds : List D} : cSR (.nt ds) e = .ok (.v (.tup ds)) e := (rfl)
theorem sr_ob : cSR (.ob ob) e = .ok (.o ob) e := (rfl)
theorem sr_no : cSR .no e = .stuck := (rfl)
def c1k (f : D → SR) (v : Option D) : M Rv := match v with
  | some d => cSR (f d)
  | none => fail
theorem ap_c1 {f : D → SR} : c1 f m e = (m e).bind fun r e => c1k f (r.view e) e := by
  unfold c1; rw [ap_bnd]; congr 1; funext r e; unfold c1k; cases r.view e <;> rfl
theorem c1k_some {f : D → SR} : c1k f (some d) e = cSR (f d) e := (rfl)
def c2k (f : D → D → SR) (v w : Option D) : M Rv := match v, w with
  | some x, some y => cSR (f x y)
  | _, _ => fail
theorem ap_c2 {f : D → D → SR} : c2 f m n e = (cOp m e).bind fun a => bnd (cOp n) fun b e => c2k f (a.view e) (b.view e) e := by
  unfold c2; rw [ap_bnd]; congr 1; funext a; congr 1; funext b e; unfold c2k
  cases a.view e <;> cases b.view e <;> rfl
theorem c2k_some {f : D → D → SR} : c2k f (some x) (some y) e = cSR (f x y) e := (rfl)
/-- arguments -/
theorem arg_valm : cArg .val m e = (cVal m e).bind fun d => ret (.d d) := ap_bnd
def bwK : Rv → M AV
  | .v d => ret (.d d)
  | .s i => ret (.s i)
  | .o ob => ret (.d ob.val)
def ioK : Rv → M AV
  | .v d => ret (.d d)
  | .s i => ret (.io i)
  | .o ob => ret (.d ob.val)
theorem arg_bwm : cArg .bw m e = (cOp m e).bind bwK := by
  show bnd (cOp m) _ e = _
  rw [ap_bnd]; congr 1
theorem arg_iom : cArg .io m e = (cOp m e).bind ioK := by
  show bnd (cOp m) _ e = _
  rw [ap_bnd]; congr 1
theorem bwK_v : bwK (.v d) e = .ok (.d d) e := (rfl)
theorem bwK_s : bwK (.s i) e = .ok (.s i) e := (rfl)
theorem ioK_v : ioK (.v d) e = .ok (.d d) e := (rfl)
theorem ioK_s : ioK (.s i) e = .ok (.io i) e := (rfl)
theorem sq_nil : seqM ([] : List (M α)) e = .ok [] e := (rfl)
theorem sq_cons {m : M α} {ms : List (M α)} : seqM (m :: ms) e = (m e).bind fun a => bnd (seqM ms) fun as => ret (a :: as) := ap_bnd
def cNk (f : List D → SR) (v : Option (List D)) : M Rv := match v with
  | some ds => cSR (f ds)
  | none => fail
theorem ap_cN {f : List D → SR} : cN f ms e = (seqM ms e).bind fun as e => cNk f (viewsOf e as) e := by
  unfold cN; rw [ap_bnd]; congr 1; funext as e; unfold cNk; cases viewsOf e as <;> rfl
theorem cNk_some {f : List D → SR} {ds : List D} : cNk f (some ds) e = cSR (f ds) e := (rfl)
def vsk (a : Option D) (b : Option (List D)) : Option (List D) := match a, b with
  | some d, some ds => some (d :: ds)
  | _, _ => none
theorem vs_nil : viewsOf e [] = some [] := (rfl)
theorem vs_cons {a : AV} {as : List AV} : viewsOf e (a :: as) = vsk (a.view e) (viewsOf e as) := by
  rw [viewsOf]; unfold vsk; cases a.view e <;> cases viewsOf e as <;> rfl
theorem vsk_some {ds : List D} : vsk (some d) (some ds) = some (d :: ds) := (rfl)
theorem av_d : AV.view e (.d d) = some d := (rfl)
theorem av_s : AV.view e (.s i) = viewS e[i]? := by unfold AV.view viewAt viewS; rfl
theorem av_io : AV.view e (.io i) = viewS e[i]? := by unfold AV.view viewAt viewS; rfl
/-- own calls -/
def ark (a : Option Arg) (b : Option (List Arg)) : Option (List Arg) := match a, b with
  | some d, some ds => some (d :: ds)
  | _, _ => none
theorem ar_nil : argsOf e [] = some [] := (rfl)
theorem ar_cons {a : AV} {as : List AV} : argsOf e (a :: as) = ark (a.arg e) (argsOf e as) := by
  rw [argsOf]; unfold ark; cases a.arg e <;> cases argsOf e as <;> rfl
theorem ark_some {a : Arg} {as : List Arg} : ark (some a) (some as) = some (a :: as) := (rfl)
def argS : Option Slot → Option Arg
  | some (.fz y) => some (.fz y)
  | some z => z.own.map Arg.bw
  | none => none
def argI : Option Slot → Option Arg
  | some (.fz y) => some (.fz y)
  | some (.ow o) => some (.io o)
  | some (.io o) => some (.io o)
  | _ => none
theorem arg_d : AV.arg e (.d d) = some (.fz d) := (rfl)
theorem arg_s : AV.arg e (.s i) = argS e[i]? := by unfold AV.arg argS; rfl
theorem arg_i : AV.arg e (.io i) = argI e[i]? := by unfold AV.arg argI; rfl
theorem argS_fz : argS (some (.fz d)) = some (.fz d) := (rfl)
theorem argS_ow : argS (some (.ow ob)) = some (.bw ob) := (rfl)
theorem argS_io : argS (some (.io ob)) = some (.bw ob) := (rfl)
theorem argS_bw : argS (some (.bw ob)) = some (.bw ob) := (rfl)
theorem argI_fz : argI (some (.fz d)) = some (.fz d) := (rfl)
theorem argI_ow : argI (some (.ow ob)) = some (.io ob) := (rfl)
theorem argI_io : argI (some (.io ob)) = some (.io ob) := (rfl)
theorem df_nil : dupFree [] = true := (rfl)
theorem df_d {as : List AV} : dupFree (.d d :: as) = dupFree as := (rfl)
theorem df_s {as : List AV} : dupFree (.s i :: as) = (as.all (fun b => b.ix != some i) && dupFree as) := (rfl)
theorem df_io {as : List AV} : dupFree (.io i :: as) = (as.all (fun b => b.ix != some i) && dupFree as) := (rfl)
theorem ix_d : AV.ix (.d d) = none := (rfl)
theorem ix_s : AV.ix (.s i) = some i := (rfl)
theorem ix_io : AV.ix (.io i) = some i := (rfl)
def callR (as : List AV) (f : FO) : M Rv := fun e => match f with
  | .ok r outs => .ok (rtRv r) (updE as outs 0 e)
  | .exc x outs => .exc x (updE as outs 0 e)
  | .stuck => .stuck
def callK (sem : FSem) (as : List AV) (a : Option (List Arg)) : M Rv := match a with
  | some args => if dupFree as = true then callR as (sem args) else fail
  | none => fail
theorem ap_call {sem : FSem} : cCall sem ms e = (seqM ms e).bind fun as e => callK sem as (argsOf e as) e := by
  unfold cCall; rw [ap_bnd]; congr 1; funext as e; unfold callK
  cases argsOf e as with
  | none => rfl
  | some args => simp only; split <;> first | (unfold callR; cases sem args <;> rfl) | rfl
def callD (b : Bool) (sem : FSem) (as : List AV) (args : List Arg) : M Rv := if b = true then callR as (sem args) else fail
theorem callK_some {sem : FSem} {as : List AV} {args : List Arg} : callK sem as (some args) e = callD (dupFree as) sem as args e := (rfl)
theorem callD_true {sem : FSem} {as : List AV} {args : List Arg} : callD true sem as args e = callR as (sem args) e := (rfl)
theorem callR_ok {as : List AV} {r : Rt} {outs : List (Option Ob)} : callR as (.ok r outs) e = .ok (rtRv r) (updE as outs 0 e) := (rfl)
theorem rt_v : rtRv (.v d) = .v d := (rfl)
theorem rt_o : rtRv (.o ob) = .o ob := (rfl)
def uek (a : Option Ob) (s : Slot) : Slot := match a with
  | some o => s.setOb o
  | none => s
theorem ue_nil {as : List AV} {os : List (Option Ob)} : updE as os j [] = [] := (rfl)
theorem ue_cons {as : List AV} {os : List (Option Ob)} {s : Slot} {l : En} : updE as os j (s :: l) = uek (outFor j as os) s :: updE as os (j + 1) l := by
  rw [updE]; unfold uek; cases outFor j as os <;> rfl
theorem uek_none {s : Slot} : uek none s = s := (rfl)
theorem uek_ow {o o' : Ob} : uek (some o') (.ow o) = .ow o' := (rfl)
theorem uek_io {o o' : Ob} : uek (some o') (.io o) = .io o' := (rfl)
theorem of_nil {os : List (Option Ob)} : outFor j [] os = none := by unfold outFor; rfl
theorem of_d {as : List AV} {os : List (Option Ob)} {q : Option Ob} : outFor j (.d d :: as) (q :: os) = outFor j as os := by cases q <;> rfl
theorem of_s {as : List AV} {os : List (Option Ob)} {q : Option Ob} : outFor j (.s i :: as) (q :: os) = outFor j as os := by cases q <;> rfl
theorem of_none {as : List AV} {os : List (Option Ob)} {a : AV} : outFor j (a :: as) (none :: os) = outFor j as os := by cases a <;> rfl
theorem of_io {as : List AV} {os : List (Option Ob)} {q : Ob} : outFor j (.io i :: as) (some q :: os) = if i = j then some q else outFor j as os := (rfl)
/-- tests -/
theorem ap_B : cB m e = (m e).bind boolRv := ap_bnd
theorem br_v {b : Bool} : boolRv (.v (.bl b)) e = .ok b e := (rfl)
def truK (v : Option D) : M Bool := match v with
  | some d => (match truD d with | some b => ret b | none => fail)
  | none => fail
theorem ap_T : cT m e = (m e).bind fun r e => truK (r.view e) e := by
  unfold cT; rw [ap_bnd]; congr 1; funext r e; unfold truRv truK
  cases r.view e with
  | none => rfl
  | some d => simp only; cases truD d <;> rfl
theorem tru_non : truK (some .non) e = .ok false e := (rfl)
theorem tru_bl {b : Bool} : truK (some (.bl b)) e = .ok b e := (rfl)
theorem tru_int {z : Int} : truK (some (.int z)) e = .ok (z != 0) e := (rfl)
theorem tru_tup {ds : List D} : truK (some (.tup ds)) e = .ok (!ds.isEmpty) e := (rfl)
theorem tru_lst {ds : List D} : truK (some (.lst ds)) e = .ok (!ds.isEmpty) e := (rfl)
theorem tru_scr {ds : List D} : truK (some (.scr ds)) e = .ok (!ds.isEmpty) e := (rfl)
theorem tru_dic {ds : List (Key × D)} : truK (some (.dic ds)) e = .ok (!ds.isEmpty) e := (rfl)
def notB (o : Out Bool) : Out Bool := match o with
  | .ok b e => .ok (!b) e
  | .exc x e => .exc x e
  | .stuck => .stuck
theorem ap_not {t : M Bool} : tNotM t e = notB (t e) := by unfold tNotM bnd notB; cases t e <;> rfl
theorem notB_ok {b : Bool} : notB (.ok b e) = .ok (!b) e := (rfl)
/-- by a test -/
def iteB (o : Out Bool) (a b : M α) : Out α := match o with
  | .ok k e => if k = true then a e else b e
  | .exc x e => .exc x e
  | .stuck => .stuck
theorem iteB_congr {o p : Out Bool} {a b : M α} (h : o = p) : iteB o a b = iteB p a b := by rw [h]
theorem ap_if {t : M Bool} {a b : M α} : cIf t a b e = iteB (t e) a b := by
  unfold cIf bnd iteB; cases t e with
  | ok k e' => simp only; split <;> rfl
  | exc x e' => rfl
  | stuck => rfl
theorem iteB_ok {k : Bool} {a b : M α} : iteB (.ok k e) a b = bif k then a e else b e := by cases k <;> rfl
theorem iteB_true {a b : M α} : iteB (.ok true e) a b = a e := (rfl)
theorem iteB_false {a b : M α} : iteB (.ok false e) a b = b e := (rfl)
theorem ap_and {a b : M Bool} : tAndM a b e = iteB (a e) b (ret false) := by
  unfold tAndM bnd iteB; cases a e with
  | ok k e' => simp only; split <;> rfl
  | exc x e' => rfl
  | stuck => rfl
theorem ap_or {a b : M Bool} : tOrM a b e = iteB (a e) (ret true) b := by
  unfold tOrM bnd iteB; cases a e with
  | ok k e' => simp only; split <;> rfl
  | exc x e' => rfl
  | stuck => rfl
theorem ap_andV : cAndV m n e = iteB (cB m e) n (ret (.v (.bl false))) := by
  rw [ap_B]; unfold cAndV; rw [ap_bnd]
  cases m e with
  | ok r e' =>
    rw [ob_ok, ob_ok, ap_bnd]
    cases boolRv r e' with
    | ok k e2 => rw [ob_ok]; cases k <;> rfl
    | exc x e2 => rfl
    | stuck => rfl
  | exc x e' => rfl
  | stuck => rfl
theorem ap_orV : cOrV m n e = iteB (cB m e) (ret (.v (.bl true))) n := by
  rw [ap_B]; unfold cOrV; rw [ap_bnd]
  cases m e with
  | ok r e' =>
    rw [ob_ok, ob_ok, ap_bnd]
    cases boolRv r e' with
    | ok k e2 => rw [ob_ok]; cases k <;> rfl
    | exc x e2 => rfl
    | stuck => rfl
  | exc x e' => rfl
  | stuck => rfl
theorem ap_notV : cNotV m e = (cT m e).bind fun b => ret (.v (.bl !b)) := ap_bnd
/-- statements -/
def seqB (o : Out Fl) (b : M Fl) : Out Fl := match o with
  | .ok .nx e => b e
  | .ok f e => .ok f e
  | .exc x e => .exc x e
  | .stuck => .stuck
theorem seqB_congr {o p : Out Fl} {b : M Fl} (h : o = p) : seqB o b = seqB p b := by rw [h]
theorem ap_seq {a b : M Fl} : sSeq a b e = seqB (a e) b := by
  unfold sSeq bnd seqB; cases a e with
  | ok f e' => cases f <;> rfl
  | exc x e' => rfl
  | stuck => rfl
theorem seqB_nx {b : M Fl} : seqB (.ok .nx e) b = b e := (rfl)
theorem seqB_rt {b : M Fl} : seqB (.ok (.rt r) e) b = .ok (.rt r) e := (rfl)
theorem seqB_bk {b : M Fl} : seqB (.ok .bk e) b = .ok .bk e := (rfl)
theorem seqB_ct {b : M Fl} : seqB (.ok .ct e) b = .ok .ct e := (rfl)
theorem ap_nx : sNx e = .ok .nx e := (rfl)
theorem ap_bk : sBk e = .ok .bk e := (rfl)
theorem ap_ct : sCt e = .ok .ct e := (rfl)
theorem ap_sret : sRet m e = (m e).bind fun r => ret (.rt r) := ap_bnd
theorem ap_sretN : sRetN e = .ok (.rt (.v .non)) e := (rfl)
theorem ap_expr : sExpr m e = (m e).bind fun _ => ret .nx := ap_bnd
theorem ap_asg : sAsg i m e = (m e).bind (asgRv i) := ap_bnd
def asgS (i : Nat) (r : Rv) (s : Option Slot) : M Fl := fun e => match s with
  | none => .stuck
  | some s => if s.pin = true then .stuck else match r with
    | .v d => .ok .nx (e.set i (.fz d))
    | .o ob => .ok .nx (e.set i (.ow ob))
    | .s j => match e[j]? with
      | some (.ow o) => .ok .nx ((e.set j (.fz o.val)).set i (.fz o.val))
      | some (.fz d) => .ok .nx (e.set i (.fz d))
      | _ => .stuck
theorem asg_at : asgRv i r e = asgS i r e[i]? e := by unfold asgRv asgS; rfl
theorem asg_vu : asgS i (.v d) (some .un) e = .ok .nx (e.set i (.fz d)) := (rfl)
theorem asg_vf : asgS i (.v d) (some (.fz x)) e = .ok .nx (e.set i (.fz d)) := (rfl)
theorem asg_vo {o : Ob} : asgS i (.v d) (some (.ow o)) e = .ok .nx (e.set i (.fz d)) := (rfl)
theorem asg_ou : asgS i (.o ob) (some .un) e = .ok .nx (e.set i (.ow ob)) := (rfl)
theorem asg_of : asgS i (.o ob) (some (.fz x)) e = .ok .nx (e.set i (.ow ob)) := (rfl)
theorem asg_oo {o : Ob} : asgS i (.o ob) (some (.ow o)) e = .ok .nx (e.set i (.ow ob)) := (rfl)
def asgJ (i j : Nat) (s : Option Slot) : M Fl := fun e => match s with
  | some (.ow o) => .ok .nx ((e.set j (.fz o.val)).set i (.fz o.val))
  | some (.fz d) => .ok .nx (e.set i (.fz d))
  | _ => .stuck
theorem asg_su : asgS i (.s j) (some .un) e = asgJ i j e[j]? e := (rfl)
theorem asg_sf : asgS i (.s j) (some (.fz x)) e = asgJ i j e[j]? e := (rfl)
theorem asg_so {o : Ob} : asgS i (.s j) (some (.ow o)) e = asgJ i j e[j]? e := (rfl)
theorem asgJ_ow {o : Ob} : asgJ i j (some (.ow o)) e = .ok .nx ((e.set j (.fz o.val)).set i (.fz o.val)) := (rfl)
theorem asgJ_fz : asgJ i j (some (.fz d)) e = .ok .nx (e.set i (.fz d)) := (rfl)
/-- targets -/
def tgS (i : Nat) (d : D) (s : Option Slot) : M Unit := fun e => match s with
  | none => .stuck
  | some s => if s.pin = true then .stuck else .ok () (e.set i (.fz d))
theorem ap_tgN : tgN i d e = tgS i d e[i]? e := by unfold tgN tgS; rfl
theorem tgS_un : tgS i d (some .un) e = .ok () (e.set i (.fz d)) := (rfl)
theorem tgS_fz : tgS i d (some (.fz x)) e = .ok () (e.set i (.fz d)) := (rfl)
theorem tgS_ow : tgS i d (some (.ow ob)) e = .ok () (e.set i (.fz d)) := (rfl)
theorem ap_tgNil : tgNil [] e = .ok () e := (rfl)
theorem ap_tgCons {f : D → M Unit} {g : List D → M Unit} {ds : List D} : tgCons f g (d :: ds) e = (f d e).bind fun _ => g ds := ap_bnd
theorem ap_tgT_tup {k : Nat} {f : List D → M Unit} {ds : List D} (h : ds.length = k) : tgT k f (.tup ds) e = f ds e := by unfold tgT; simp [h]
theorem ap_tgT_pr {k : Nat} {f : List D → M Unit} {ds : List D} (h : ds.length = k) : tgT k f (.pr ds) e = f ds e := by unfold tgT; simp [h]
theorem ap_tgT_lst {k : Nat} {f : List D → M Unit} {ds : List D} (h : ds.length = k) : tgT k f (.lst ds) e = f ds e := by unfold tgT; simp [h]
theorem ap_asgT {f : D → M Unit} : sAsgT f m e = (cVal m e).bind fun d => bnd (f d) fun _ => ret .nx := ap_bnd
/-- iterables -/
theorem ap_cSeq : cSeq m e = (cVal m e).bind seqD := ap_bnd
theorem sq_lst {ds : List D} : seqD (.lst ds) e = .ok ds e := (rfl)
theorem sq_scr {ds : List D} : seqD (.scr ds) e = .ok ds e := (rfl)
theorem sq_str {z : Str} : seqD (.str z) e = .ok (signsD z) e := (rfl)
theorem sq_tup {ds : List D} : seqD (.tup ds) e = .ok ds e := (rfl)
def rg1 (d : D) : M (List D) := match d with
  | .int j => if small62 j = true then ret (rangeD 0 j.toNat) else fail
  | _ => fail
theorem ap_rg1 : cRange1 m e = (cVal m e).bind rg1 := by unfold cRange1; rw [ap_bnd]; congr 1
theorem rg1_int {z : Int} (h : small62 z = true) : rg1 (.int z) e = .ok (rangeD 0 z.toNat) e := by unfold rg1; simp only [h, if_true]; rfl
def rg2 (a b : D) : M (List D) := match a, b with
  | .int i, .int j => if (small62 i && small62 j) = true then ret (rangeD i (j - i).toNat) else fail
  | _, _ => fail
theorem ap_rg2 : cRange2 m n e = (cVal m e).bind fun a => bnd (cVal n) fun b => rg2 a b := by
  unfold cRange2; rw [ap_bnd]; congr 1
theorem rg2_int {z w : Int} (h : small62 z = true) (h2 : small62 w = true) : rg2 (.int z) (.int w) e = .ok (rangeD z (w - z).toNat) e := by unfold rg2; simp only [h, h2, Bool.and_self, if_true]; rfl
theorem ap_for {it : M (List D)} {f : D → M Unit} {b : M Fl} : sFor it f b e = (it e).bind fun ds => forL ds fun d => bnd (f d) fun _ => b := ap_bnd
theorem for_nil {b : D → M Fl} : forL [] b e = .ok .nx e := (rfl)
def forK (o : Out Fl) (ds : List D) (b : D → M Fl) : Out Fl := match o with
  | .ok .nx e => forL ds b e
  | .ok .ct e => forL ds b e
  | .ok .bk e => .ok .nx e
  | .ok (.rt r) e => .ok (.rt r) e
  | .exc x e => .exc x e
  | .stuck => .stuck
theorem forK_congr {o p : Out Fl} {ds : List D} {b : D → M Fl} (h : o = p) : forK o ds b = forK p ds b := by rw [h]
theorem for_cons {b : D → M Fl} {ds : List D} : forL (d :: ds) b e = forK (b d e) ds b := by
  unfold forL bnd forK; cases b d e with
  | ok f e' => cases f <;> rfl
  | exc x e' => rfl
  | stuck => rfl
theorem forK_nx {ds : List D} {b : D → M Fl} : forK (.ok .nx e) ds b = forL ds b e := (rfl)
theorem forK_ct {ds : List D} {b : D → M Fl} : forK (.ok .ct e) ds b = forL ds b e := (rfl)
theorem forK_bk {ds : List D} {b : D → M Fl} : forK (.ok .bk e) ds b = .ok .nx e := (rfl)
theorem forK_rt {ds : List D} {b : D → M Fl} : forK (.ok (.rt r) e) ds b = .ok (.rt r) e := (rfl)
/-- tuples, lists, dicts -/
theorem tk_nil : takeAll [] e = .ok [] e := (rfl)
theorem tk_cons {ns : List (M Rv)} : takeAll (m :: ns) e = (cVal m e).bind fun d => bnd (takeAll ns) fun ds => ret (d :: ds) := ap_bnd
def tupK (ds : List D) : M Rv := if ds.length ≤ sizeLine then ret (.v (.tup ds)) else fail
def lstK (ds : List D) : M Rv := if ds.length ≤ sizeLine then ret (.o (.lst ds)) else fail
theorem ap_tup {ns : List (M Rv)} : cTup ns e = (takeAll ns e).bind tupK := ap_bnd
theorem ap_lst {ns : List (M Rv)} : cLst ns e = (takeAll ns e).bind lstK := ap_bnd
theorem tupK_ok {ds : List D} (h : ds.length ≤ sizeLine) : tupK ds e = .ok (.v (.tup ds)) e := by unfold tupK; rw [if_pos h]; rfl
theorem lstK_ok {ds : List D} (h : ds.length ≤ sizeLine) : lstK ds e = .ok (.o (.lst ds)) e := by unfold lstK; rw [if_pos h]; rfl
theorem ap_dic0 : cDic0 e = .ok (.o (.dic [])) e := (rfl)
theorem pm_nil : pairsM [] e = .ok [] e := (rfl)
theorem pm_cons {ps : List (M Rv × M Rv)} : pairsM ((m, n) :: ps) e = (cVal m e).bind fun k => bnd (cVal n) fun v => bnd (pairsM ps) fun ps => ret ((k, v) :: ps) := ap_bnd
def dicK (k : Option (List (Key × D))) : M Rv := match k with
  | some kvs => ret (.o (.dic (mergeD [] kvs)))
  | none => fail
theorem ap_dic {ps : List (M Rv × M Rv)} : cDic ps e = (pairsM ps e).bind fun ps => dicK (keysD ps) := by
  unfold cDic; rw [ap_bnd]; congr 1
theorem dicK_ok {kvs : List (Key × D)} : dicK (some kvs) e = .ok (.o (.dic (mergeD [] kvs))) e := (rfl)
/-- slices -/
def slK (r : Rv) (l u : Option Int) : M Rv := fun e => match r.view e with
  | some d => cSR (sliceD d l u) e
  | none => .stuck
theorem ap_sl {a b : Option (M Rv)} : cSlice m a b e = (cOp m e).bind fun r => bnd (partM a) fun l => bnd (partM b) fun u => slK r l u := by
  unfold cSlice; rw [ap_bnd]; congr 1
theorem slK_some {l u : Option Int} (h : r.view e = some d) : slK r l u e = cSR (sliceD d l u) e := by unfold slK; rw [h]
theorem slK_v {l u : Option Int} : slK (.v d) l u e = cSR (sliceD d l u) e := (rfl)
theorem part_none : partM none e = .ok none e := (rfl)
def intK (d : D) : M (Option Int) := match d with
  | .int i => ret (some i)
  | _ => fail
/-- get -/
def kdK (T : D → Bool) (v : Option D) : M Unit := match v with
  | some d => if T d = true then ret () else fail
  | none => fail
theorem ap_kind {T : D → Bool} : kindOf T r e = kdK T (r.view e) e := by
  unfold kindOf kdK; cases r.view e with
  | none => rfl
  | some d => simp only; split <;> rfl
theorem kd_dic {kvs : List (Key × D)} : kdK isDic (some (.dic kvs)) e = .ok () e := (rfl)
def g2K (v k : Option D) (x : D) : M Rv := match v, k with
  | some a, some b => cSR (getD2 a b x)
  | _, _ => fail
theorem ap_get2 {mk mx : M Rv} : cGet2 m mk mx e = (cOp m e).bind fun r => bnd (kindOf isDic r) fun _ => bnd (cOp mk) fun k => bnd (cVal mx) fun x e => g2K (r.view e) (k.view e) x e := by
  unfold cGet2; rw [ap_bnd]; congr 1; funext r; congr 1; funext _; congr 1; funext k; congr 1; funext x e; unfold g2K
  cases r.view e <;> cases k.view e <;> rfl
theorem g2K_some : g2K (some x) (some y) d e = cSR (getD2 x y d) e := (rfl)
def g1K (v k : Option D) : M Rv := match v, k with
  | some a, some b => cSR (getD1 a b)
  | _, _ => fail
theorem ap_get1 {mk : M Rv} : cGet1 m mk e = (cOp m e).bind fun r => bnd (kindOf isDic r) fun _ => bnd (cOp mk) fun k e => g1K (r.view e) (k.view e) e := by
  unfold cGet1; rw [ap_bnd]; congr 1; funext r; congr 1; funext _; congr 1; funext k e; unfold g1K
  cases r.view e <;> cases k.view e <;> rfl
theorem g1K_some : g1K (some x) (some y) e = cSR (getD1 x y) e := (rfl)
/-- writes -/
def oaS (s : Option Slot) : M Unit := match s with
  | some (.ow o) => ret ()
  | some (.io o) => ret ()
  | _ => fail
theorem ap_oa : ownAny i e = oaS e[i]? e := by unfold ownAny oaS; cases e[i]? with
  | none => rfl
  | some s => cases s <;> rfl
theorem oa_ow : oaS (some (.ow ob)) e = .ok () e := (rfl)
theorem oa_io : oaS (some (.io ob)) e = .ok () e := (rfl)
def otS (T : String) (s : Option Slot) : M Unit := match s with
  | some (.ow o) => if obTy o = T then ret () else fail
  | some (.io o) => if obTy o = T then ret () else fail
  | _ => fail
theorem ap_ot {T : String} : ownTy i T e = otS T e[i]? e := by unfold ownTy otS; cases e[i]? with
  | none => rfl
  | some s => cases s <;> first | rfl | (simp only; split <;> rfl)
theorem ot_lst {ds : List D} : otS "list" (some (.ow (.lst ds))) e = .ok () e := (rfl)
theorem ot_lstI {ds : List D} : otS "list" (some (.io (.lst ds))) e = .ok () e := (rfl)
theorem ot_dic {ds : List (Key × D)} : otS "dict" (some (.ow (.dic ds))) e = .ok () e := (rfl)
theorem ot_dicI {ds : List (Key × D)} : otS "dict" (some (.io (.dic ds))) e = .ok () e := (rfl)
def wrS (i : Nat) (f : Ob → Option (α × Ob)) (s : Option Slot) : M α := fun e => match s with
  | some (.ow o) => match f o with
    | some (r, u) => .ok r (e.set i (.ow u))
    | none => .stuck
  | some (.io o) => match f o with
    | some (r, u) => .ok r (e.set i (.io u))
    | none => .stuck
  | _ => .stuck
theorem ap_wr {f : Ob → Option (α × Ob)} : wrM i f e = wrS i f e[i]? e := by unfold wrM wrS; rfl
def wrO (i : Nat) (v : Option (α × Ob)) : M α := fun e => match v with
  | some (r, u) => .ok r (e.set i (.ow u))
  | none => .stuck
def wrI (i : Nat) (v : Option (α × Ob)) : M α := fun e => match v with
  | some (r, u) => .ok r (e.set i (.io u))
  | none => .stuck
theorem wr_ow {f : Ob → Option (α × Ob)} : wrS i f (some (.ow ob)) e = wrO i (f ob) e := (rfl)
theorem wr_io {f : Ob → Option (α × Ob)} : wrS i f (some (.io ob)) e = wrI i (f ob) e := (rfl)
theorem wrO_some {a : α} : wrO i (some (a, ob)) e = .ok a (e.set i (.ow ob)) := (rfl)
theorem wrI_some {a : α} : wrI i (some (a, ob)) e = .ok a (e.set i (.io ob)) := (rfl)
theorem ap_set {mk mv : M Rv} : sSet i mk mv e = (cVal mv e).bind fun d => bnd (ownAny i) fun _ => bnd (cVal mk) fun k => bnd (wrM i (setOb k d)) fun _ => ret .nx := ap_bnd
theorem ap_mut {T : String} {f : List D → Ob → Option (D × Ob)} {ns : List (M Rv)} : cMut i T f ns e = (ownTy i T e).bind fun _ => bnd (takeAll ns) fun ds => bnd (wrM i (f ds)) fun d => ret (.v d) := ap_bnd
/-- defs -/
theorem run_A {np k : Nat} {b : M Fl} {args : List Arg} (h : args.length = np) : runA np k b args = runF k b args := by unfold runA; rw [if_pos h]
def runK (args : List Arg) (o : Out Fl) : FO := match o with
  | .ok f e => finish args f e
  | .exc x e => match outsOf args e with
    | some outs => .exc x outs
    | none => .stuck
  | .stuck => .stuck
theorem runK_congr {args : List Arg} {o p : Out Fl} (h : o = p) : runK args o = runK args p := by rw [h]
theorem run_F {k : Nat} {b : M Fl} {args : List Arg} : runF k b args = runK args (b (enter args k)) := by unfold runF runK; rfl
theorem runK_ok {args : List Arg} {f : Fl} : runK args (.ok f e) = finish args f e := (rfl)
def finK (f : Fl) (e : En) (o : Option (List (Option Ob))) : FO := match o with
  | none => .stuck
  | some outs => match f with
    | .nx => .ok (.v .non) outs
    | .rt (.v d) => .ok (.v d) outs
    | .rt (.o ob) => .ok (.o ob) outs
    | .rt (.s i) => match e[i]? with
      | some (.ow o) => .ok (.o o) outs
      | some (.fz d) => .ok (.v d) outs
      | _ => .stuck
    | _ => .stuck
theorem fin_at {args : List Arg} {f : Fl} : finish args f e = finK f e (outsOf args e) := by unfold finish finK; rfl
theorem fin_nx {outs : List (Option Ob)} : finK .nx e (some outs) = .ok (.v .non) outs := (rfl)
theorem fin_v {outs : List (Option Ob)} : finK (.rt (.v d)) e (some outs) = .ok (.v d) outs := (rfl)
theorem fin_o {outs : List (Option Ob)} : finK (.rt (.o ob)) e (some outs) = .ok (.o ob) outs := (rfl)
def finS (s : Option Slot) (outs : List (Option Ob)) : FO := match s with
  | some (.ow o) => .ok (.o o) outs
  | some (.fz d) => .ok (.v d) outs
  | _ => .stuck
theorem fin_s {outs : List (Option Ob)} : finK (.rt (.s i)) e (some outs) = finS e[i]? outs := (rfl)
theorem finS_ow {outs : List (Option Ob)} : finS (some (.ow ob)) outs = .ok (.o ob) outs := (rfl)
theorem finS_fz {outs : List (Option Ob)} : finS (some (.fz d)) outs = .ok (.v d) outs := (rfl)
theorem outs_nil : outsOf [] e = some [] := (rfl)
theorem outs_fz {as : List Arg} {s : Slot} {l : En} : outsOf (.fz d :: as) (s :: l) = (outsOf as l).map fun r => none :: r := by cases s <;> rfl
theorem outs_bw {as : List Arg} {s : Slot} {l : En} : outsOf (.bw ob :: as) (s :: l) = (outsOf as l).map fun r => none :: r := by cases s <;> rfl
theorem outs_io {as : List Arg} {o : Ob} {l : En} : outsOf (.io ob :: as) (.io o :: l) = (outsOf as l).map fun r => some o :: r := (rfl)
theorem en_at {args : List Arg} {k : Nat} : enter args k = args.map Arg.slot ++ List.replicate k .un := (rfl)
theorem slot_fz : Arg.slot (.fz d) = .fz d := (rfl)
theorem slot_io : Arg.slot (.io ob) = .io ob := (rfl)
theorem slot_bw : Arg.slot (.bw ob) = .bw ob := (rfl)
end
/-! ### values -/
section
variable {i j : Int} {s t : Str} {ds es : List D} {kvs : List (Key × D)} {a b : Bool}
theorem dv_add : addD (.int i) (.int j) = .d (.int (i + j)) := (rfl)
theorem dv_addS (h : s.length + t.length ≤ sizeLine) : addD (.str s) (.str t) = .d (.str (s ++ t)) := by unfold addD; simp only [h, if_true]
theorem dv_addT (h : ds.length + es.length ≤ sizeLine) : addD (.tup ds) (.tup es) = .nt (ds ++ es) := by unfold addD; simp only [h, if_true]
theorem dv_addL (h : ds.length + es.length ≤ sizeLine) : addD (.lst ds) (.lst es) = .ob (.lst (ds ++ es)) := by unfold addD; simp only [h, if_true]
theorem dv_sub : subD (.int i) (.int j) = .d (.int (i - j)) := (rfl)
theorem dv_mulL (h : mulOk i = true) : mulD (.int i) (.int j) = .d (.int (i * j)) := by unfold mulD; simp only [h, Bool.true_or, if_true]
theorem dv_mulR (h : mulOk j = true) : mulD (.int i) (.int j) = .d (.int (i * j)) := by unfold mulD; simp only [h, Bool.or_true, if_true]
theorem dv_mod (h : 0 < j) : modD (.int i) (.int j) = .d (.int (i % j)) := if_pos h
theorem dv_fdiv (h : 0 < j) (h2 : j < 1073741824) : fdivD (.int i) (.int j) = .d (.int (i / j)) := if_pos ⟨h, h2⟩
theorem dv_neg : negD (.int i) = .d (.int (-i)) := (rfl)
theorem dv_eqI : eqD (.int i) (.int j) = .d (.bl (decide (i = j))) := (rfl)
theorem dv_eqS : eqD (.str s) (.str t) = .d (.bl (decide (s = t))) := (rfl)
theorem dv_eqB : eqD (.bl a) (.bl b) = .d (.bl (decide (a = b))) := (rfl)
theorem dv_neI : neD (.int i) (.int j) = .d (.bl (!decide (i = j))) := (rfl)
theorem dv_neS : neD (.str s) (.str t) = .d (.bl (!decide (s = t))) := (rfl)
theorem dv_neB : neD (.bl a) (.bl b) = .d (.bl (!decide (a = b))) := (rfl)
theorem dv_lt : ltD (.int i) (.int j) = .d (.bl (decide (i < j))) := (rfl)
theorem dv_le : leD (.int i) (.int j) = .d (.bl (decide (i ≤ j))) := (rfl)
theorem dv_gt : gtD (.int i) (.int j) = .d (.bl (decide (j < i))) := (rfl)
theorem dv_ge : geD (.int i) (.int j) = .d (.bl (decide (j ≤ i))) := (rfl)
def ixk (v : Option D) : SR := match v with
  | some d => .d d
  | none => .no
theorem ixk_some {d : D} : ixk (some d) = .d d := (rfl)
theorem dv_ixT : ixD (.tup ds) (.int i) = ixk (atI ds i) := (rfl)
theorem dv_ixL : ixD (.lst ds) (.int i) = ixk (atI ds i) := (rfl)
theorem dv_ixR : ixD (.scr ds) (.int i) = ixk (atI ds i) := (rfl)
theorem dv_ixDS : ixD (.dic kvs) (.str s) = ixk (valD kvs (.inr s)) := (rfl)
theorem dv_ixDI : ixD (.dic kvs) (.int i) = ixk (valD kvs (.inl i)) := (rfl)
theorem dv_slT {l u : Option Int} : sliceD (.tup ds) l u = .nt (cutD ds l u) := (rfl)
theorem dv_slL {l u : Option Int} : sliceD (.lst ds) l u = .ob (.lst (cutD ds l u)) := (rfl)
theorem dv_slR {l u : Option Int} : sliceD (.scr ds) l u = .ob (.lst (cutD ds l u)) := (rfl)
theorem dv_lenT : lenD [.tup ds] = .d (.int ds.length) := (rfl)
theorem dv_lenL : lenD [.lst ds] = .d (.int ds.length) := (rfl)
theorem dv_lenR : lenD [.scr ds] = .d (.int ds.length) := (rfl)
theorem dv_lenD : lenD [.dic kvs] = .d (.int kvs.length) := (rfl)
theorem dv_intI : intD [.int i] = .d (.int i) := (rfl)
theorem dv_intB : intD [.bl a] = .d (.int (if a then 1 else 0)) := (rfl)
theorem dv_abs : absD [.int i] = .d (.int (if i < 0 then -i else i)) := (rfl)
theorem dv_min : min2D [.int i, .int j] = .d (.int (if j < i then j else i)) := (rfl)
theorem dv_max : max2D [.int i, .int j] = .d (.int (if j > i then j else i)) := (rfl)
theorem dv_listT : listOf [.tup ds] = .ob (.lst ds) := (rfl)
theorem dv_listL : listOf [.lst ds] = .ob (.lst ds) := (rfl)
theorem dv_listR : listOf [.scr ds] = .ob (.lst ds) := (rfl)
theorem dv_tupT : tupOf [.tup ds] = .d (.tup ds) := (rfl)
theorem dv_tupL : tupOf [.lst ds] = .nt ds := (rfl)
theorem dv_tupR : tupOf [.scr ds] = .nt ds := (rfl)
theorem dv_get2S {d : D} : getD2 (.dic kvs) (.str s) d = .d ((valD kvs (.inr s)).getD d) := (rfl)
theorem dv_get2I {d : D} : getD2 (.dic kvs) (.int i) d = .d ((valD kvs (.inl i)).getD d) := (rfl)
theorem dv_dictD : dictOf [.dic kvs] = .ob (.dic kvs) := (rfl)
theorem dv_dictT (h : pairsD ds = some kvs) : dictOf [.tup ds] = .ob (.dic (mergeD [] kvs)) := by
  show (match pairsD ds with | some kvs => SR.ob (.dic (mergeD [] kvs)) | none => .no) = _
  rw [h]
theorem dv_setS {d : D} (h : kvs.length < sizeLine) : setOb (.str s) d (.dic kvs) = some ((), .dic (putD kvs (.inr s) d)) := by unfold setOb keyD; simp only [h, if_true]
theorem dv_setI {d : D} (h : kvs.length < sizeLine) : setOb (.int i) d (.dic kvs) = some ((), .dic (putD kvs (.inl i) d)) := by unfold setOb keyD; simp only [h, if_true]
theorem dv_app {d : D} (h : ds.length < sizeLine) : appF [d] (.lst ds) = some (.non, .lst (ds ++ [d])) := by unfold appF; simp only [h, if_true]
theorem dv_pow (h : 0 ≤ j) (h2 : j ≤ 1000000) (h3 : i.natAbs < 2 ^ 64) : powD (.int i) (.int j) = .d (.int (i ^ j.toNat)) := if_pos ⟨h, h2, h3⟩
theorem at_nat {α : Type} (l : List α) (n : Nat) : atI l (n : Int) = l[n]? := by
  unfold atI ixN
  by_cases h : (n : Int) < (l.length : Int)
  · rw [if_pos (Int.natCast_nonneg n), if_pos h]; rfl
  · rw [if_pos (Int.natCast_nonneg n), if_neg h]
    have : l.length ≤ n := by omega
    rw [List.getElem?_eq_none_iff.mpr this]; rfl
theorem at0 {α : Type} (l : List α) : atI l 0 = l[0]? := at_nat l 0
theorem at1 {α : Type} (l : List α) : atI l 1 = l[1]? := at_nat l 1
theorem at2 {α : Type} (l : List α) : atI l 2 = l[2]? := at_nat l 2
theorem at3 {α : Type} (l : List α) : atI l 3 = l[3]? := at_nat l 3
theorem at4 {α : Type} (l : List α) : atI l 4 = l[4]? := at_nat l 4
theorem at5 {α : Type} (l : List α) : atI l 5 = l[5]? := at_nat l 5
theorem at_of {α : Type} {l : List α} {i : Int} {a : α} (h : 0 ≤ i) (e : l[i.toNat]? = some a) : atI l i = some a := by
  have : i = (i.toNat : Int) := by omega
  rw [this, at_nat, e]
theorem str_eq (a b : String) : (Str.ofString a = Str.ofString b) = (a = b) := by
  refine propext ⟨fun h => ?_, fun h => by rw [h]⟩
  rw [Str.ofString_eq_toList, Str.ofString_eq_toList] at h
  injection h with h
  have h1 : a.toList.map Char.toNat = b.toList.map Char.toNat := by simpa using h
  have inj : ∀ x y : Char, x.toNat = y.toNat → x = y := fun x y q => Char.ext (UInt32.toNat_inj.mp q)
  have h2 : a.toList = b.toList := (List.map_inj_right inj).mp h1
  exact String.toList_inj.mp h2
end
end PV

namespace PV
open PySem PySem.Spec L2 PyProof.Rows
/-! ### 18. comprehensions step by step; loops by induction -/
section
variable {α : Type} {e e' : En} {i j : Nat} {d x : D} {ob : Ob} {m : M Rv} {c : M Bool} {f : D → M Unit} {vs : List Nat} {ds : List D}
def compK (ys : List D) : M Rv := if ys.length ≤ sizeLine then ret (.o (.lst ys)) else fail
theorem ap_comp {it : M (List D)} : cComp vs it f c m e = (it e).bind fun ds => bnd (compL vs f c m ds) compK := by unfold cComp; rw [ap_bnd]; rfl
theorem compK_ok {ys : List D} (h : ys.length ≤ sizeLine) : compK ys e = .ok (.o (.lst ys)) e := by unfold compK; rw [if_pos h]; rfl
def optC (r : Option D) (ys : List D) : List D := match r with | some y => y :: ys | none => ys
theorem optC_some {y : D} {ys : List D} : optC (some y) ys = y :: ys := (rfl)
theorem optC_none {ys : List D} : optC none ys = ys := (rfl)
theorem cl_nil : compL vs f c m [] e = .ok [] e := (rfl)
theorem cl_cons : compL vs f c m (d :: ds) e = (turnM vs f c m d e).bind fun r => bnd (compL vs f c m ds) fun ys => ret (optC r ys) := by
  rw [compL, ap_bnd]; rfl
def wbS : Option Slot → Bool
  | some .un => true
  | some (.fz _) => true
  | _ => false
theorem wb_nil : wipable [] e = true := (rfl)
theorem wb_cons : wipable (i :: vs) e = (wbS e[i]? && wipable vs e) := by
  unfold wipable; rw [List.all_cons]; congr 1
theorem wbS_un : wbS (some .un) = true := (rfl)
theorem wbS_fz : wbS (some (.fz d)) = true := (rfl)
theorem wp_nil : wipeE [] e = e := (rfl)
theorem wp_cons : wipeE (i :: vs) e = (wipeE vs e).set i .un := (rfl)
def bkS (i : Nat) (s : Option Slot) (e : En) : En := match s with
  | some s => e.set i s
  | none => e
theorem bk_nil : backE e [] e' = e' := (rfl)
theorem bk_cons : backE e (i :: vs) e' = bkS i e[i]? (backE e vs e') := by rw [backE]; unfold bkS; cases e[i]? <;> rfl
theorem bkS_some {s : Slot} : bkS i (some s) e = e.set i s := (rfl)
def turnK (e : En) (vs : List Nat) (o : Out (Option D)) : Out (Option D) := match o with
  | .ok r e' => .ok r (backE e vs e')
  | _ => .stuck
def condK (m : M Rv) (b : Bool) : M (Option D) := if b = true then bnd (cVal m) fun y => ret (some y) else ret none
theorem condK_true : condK m true e = (cVal m e).bind fun y => ret (some y) := ap_bnd
theorem condK_false : condK m false e = .ok none e := (rfl)
def turnW (b : Bool) (vs : List Nat) (f : D → M Unit) (c : M Bool) (m : M Rv) (d : D) : M (Option D) := fun e => if b = true then turnK e vs ((f d (wipeE vs e)).bind fun _ => bnd c (condK m)) else .stuck
theorem ap_turn : turnM vs f c m d e = turnW (wipable vs e) vs f c m d e := by
  unfold turnM turnW; split
  · rw [ap_bnd]; rfl
  · rfl
theorem turnW_true : turnW true vs f c m d e = turnK e vs ((f d (wipeE vs e)).bind fun _ => bnd c (condK m)) := (rfl)
theorem turnK_ok {r : Option D} : turnK e vs (.ok r e') = .ok r (backE e vs e') := (rfl)
theorem ap_yes : tYesM e = .ok true e := (rfl)
/-- a comprehension's turns, one state behind the other -/
theorem comp_run (P : Nat → En → Prop) (Y : D → Prop) : ∀ (ds : List D) (k : Nat) (e : En), P k e → (∀ (i : Nat) (d : D) (e : En), ds[i]? = some d → P (k + i) e → ∃ y e', turnM vs f c m d e = .ok (some y) e' ∧ P (k + i + 1) e' ∧ Y y) →
    ∃ ys e', compL vs f c m ds e = .ok ys e' ∧ P (k + ds.length) e' ∧ ys.length = ds.length ∧ ∀ y ∈ ys, Y y
  | [], k, e, h, _ => ⟨[], e, rfl, h, rfl, fun y q => by cases q⟩
  | d :: ds, k, e, h, t => by
    obtain ⟨y, e1, q1, q2, q3⟩ := t 0 d e rfl h
    obtain ⟨ys, e2, r1, r2, r3, r4⟩ := comp_run P Y ds (k + 1) e1 q2 fun i d e hi hp => by
      obtain ⟨y, e', z1, z2, z3⟩ := t (i + 1) d e (by simpa using hi) (by rw [show k + (i + 1) = k + 1 + i by omega]; exact hp)
      exact ⟨y, e', z1, by rw [show k + 1 + i + 1 = k + (i + 1) + 1 by omega]; exact z2, z3⟩
    refine ⟨y :: ys, e2, ?_, by rw [show k + (d :: ds).length = k + 1 + ds.length by simp only [List.length_cons]; omega]; exact r2, by simp [r3], ?_⟩
    · rw [cl_cons, q1, ob_ok, ap_bnd, r1, ob_ok]; rfl
    · intro z hz
      rcases List.mem_cons.mp hz with rfl | hz
      · exact q3
      · exact r4 z hz
/-- a comprehension that leaves the frame as it is -/
theorem comp_map (g : D → D) : ∀ (ds : List D), (∀ d ∈ ds, turnM vs f c m d e = .ok (some (g d)) e) → compL vs f c m ds e = .ok (ds.map g) e
  | [], _ => rfl
  | d :: ds, t => by
    rw [cl_cons, t d (List.mem_cons_self ..), ob_ok, ap_bnd, comp_map g ds fun d h => t d (List.mem_cons_of_mem _ h), ob_ok]; rfl
/-- a loop's turns -/
theorem for_run {b : D → M Fl} (P : Nat → En → Prop) : ∀ (ds : List D) (k : Nat) (e : En), P k e → (∀ (i : Nat) (d : D) (e : En), ds[i]? = some d → P (k + i) e → ∃ e', b d e = .ok .nx e' ∧ P (k + i + 1) e') →
    ∃ e', forL ds b e = .ok .nx e' ∧ P (k + ds.length) e'
  | [], k, e, h, _ => ⟨e, rfl, h⟩
  | d :: ds, k, e, h, t => by
    obtain ⟨e1, q1, q2⟩ := t 0 d e rfl h
    obtain ⟨e2, r1, r2⟩ := for_run P ds (k + 1) e1 q2 fun i d e hi hp => by
      obtain ⟨e', z1, z2⟩ := t (i + 1) d e (by simpa using hi) (by rw [show k + (i + 1) = k + 1 + i by omega]; exact hp)
      exact ⟨e', z1, by rw [show k + 1 + i + 1 = k + (i + 1) + 1 by omega]; exact z2⟩
    refine ⟨e2, ?_, by rw [show k + (d :: ds).length = k + 1 + ds.length by simp only [List.length_cons]; omega]; exact r2⟩
    rw [for_cons, q1, forK_nx, r1]
end
/-! ### dicts -/
theorem val_put (kvs : List (Key × D)) (k j : Key) (v : D) : valD (putD kvs k v) j = if k = j then some v else valD kvs j := by
  unfold putD
  by_cases h : (kvs.any fun kv => decide (kv.1 = k)) = true
  · rw [if_pos h]
    induction kvs with
    | nil => simp at h
    | cons kv r ih =>
      obtain ⟨a, b⟩ := kv
      simp only [List.map_cons]
      by_cases z : a = k
      · subst z
        by_cases w : a = j
        · subst w; simp [valD]
        · rw [if_pos rfl, if_neg w]
          have : ∀ l : List (Key × D), List.find? (fun kv => decide (kv.1 = j)) (l.map fun kv => if kv.1 = a then (kv.1, v) else kv) = List.find? (fun kv => decide (kv.1 = j)) l := by
            intro l
            induction l with
            | nil => rfl
            | cons q l ih2 =>
              obtain ⟨q1, q2⟩ := q
              by_cases y : q1 = a
              · subst y; simp [w, ih2]
              · simp only [List.map_cons, if_neg y, List.find?_cons, ih2]
          unfold valD
          simp only [List.find?_cons, decide_eq_true_eq, w, decide_false, this]
      · rw [if_neg z]
        have h' : (r.any fun kv => decide (kv.1 = k)) = true := by simpa [z] using h
        by_cases w : a = j
        · subst w; simp [valD, Ne.symm z]
        · have e1 : valD ((a, b) :: r.map fun kv => if kv.1 = k then (kv.1, v) else kv) j = valD (r.map fun kv => if kv.1 = k then (kv.1, v) else kv) j := by simp [valD, w]
          have e2 : valD ((a, b) :: r) j = valD r j := by simp [valD, w]
          rw [e1, e2]; exact ih h'
  · rw [if_neg h]
    have hn : ∀ kv ∈ kvs, kv.1 ≠ k := fun kv hkv q => h (List.any_eq_true.mpr ⟨kv, hkv, by simpa using q⟩)
    by_cases w : k = j
    · subst w
      rw [if_pos rfl]
      have : List.find? (fun kv => decide (kv.1 = k)) kvs = none := by
        rw [List.find?_eq_none]; intro x hx; simpa using hn x hx
      simp [valD, List.find?_append, this]
    · rw [if_neg w]
      simp [valD, List.find?_append, w]
theorem put_len (kvs : List (Key × D)) (k : Key) (v : D) : (putD kvs k v).length ≤ kvs.length + 1 := by
  unfold putD; split <;> simp
end PV

namespace PV
open PySem PySem.Spec L2 PyProof.Rows
theorem ap_part {m : M Rv} {e : En} : partM (some m) e = (cVal m e).bind intK := by
  show bnd (cVal m) _ e = _
  rw [ap_bnd]; congr 1
theorem intK_int {i : Int} {e : En} : intK (.int i) e = .ok (some i) e := (rfl)
theorem cut_map {α : Type} (f : α → D) (l : List α) (lo hi : Option Int) : cutD (l.map f) lo hi = ((l.drop (HT.sIx l.length 0 lo)).take (HT.sIx l.length l.length hi - HT.sIx l.length 0 lo)).map f := by
  unfold cutD; rw [List.length_map, List.map_take, List.map_drop]
theorem cut_len (l : List D) (lo hi : Option Int) : (cutD l lo hi).length ≤ l.length := by
  unfold cutD; rw [List.length_take, List.length_drop]; omega
theorem sIx_pos {n d : Nat} {i : Int} (h : 0 ≤ i) (h2 : i ≤ n) : HT.sIx n d (some i) = i.toNat := by
  unfold HT.sIx; simp only
  split <;> omega
theorem sIx_none {n d : Nat} : HT.sIx n d none = d := by unfold HT.sIx; rfl
theorem nb_none {i : Nat} : ((none : Option Nat) != some i) = true := (rfl)
theorem nb_some {i j : Nat} : ((some i : Option Nat) != some j) = (i != j) := (rfl)
def slV (l u : Option Int) (v : Option D) : M Rv := match v with
  | some d => cSR (sliceD d l u)
  | none => fail
theorem slK_s {i : Nat} {l u : Option Int} {e : En} : slK (.s i) l u e = slV l u (viewS e[i]?) e := by
  unfold slK slV; rw [view_s]; cases viewS e[i]? <;> rfl
theorem slV_some {l u : Option Int} {d : D} {e : En} : slV l u (some d) e = cSR (sliceD d l u) e := (rfl)
end PV

namespace PV
open PySem PySem.Spec L2 PyProof.Rows
/-! ### 19. dicts of plain data: keys, merges -/
def keysOf (kvs : List (Key × D)) : List Key := kvs.map (·.1)
theorem val_none {k : Key} : ∀ {kvs : List (Key × D)}, valD kvs k = none ↔ k ∉ keysOf kvs
  | [] => by simp [valD, keysOf]
  | (j, d) :: r => by
    have i := @val_none k r
    by_cases z : j = k
    · subst z; simp [valD, keysOf]
    · have e : valD ((j, d) :: r) k = valD r k := by simp [valD, z]
      rw [e, i]; simp [keysOf, Ne.symm z]
theorem val_some {k : Key} {kvs : List (Key × D)} (h : k ∈ keysOf kvs) : ∃ d, valD kvs k = some d := by
  cases e : valD kvs k with
  | some d => exact ⟨d, rfl⟩
  | none => exact absurd h (val_none.mp e)
theorem strKeys_of : ∀ {kvs : List (Key × D)} {zs : List Str}, keysOf kvs = zs.map Sum.inr → strKeys kvs = some zs
  | [], [], _ => rfl
  | [], z :: zs, h => by simp [keysOf] at h
  | (k, d) :: r, [], h => by simp [keysOf] at h
  | (k, d) :: r, z :: zs, h => by
    simp only [keysOf, List.map_cons, List.cons.injEq] at h
    obtain ⟨h1, h2⟩ := h
    subst h1
    have i := strKeys_of (kvs := r) (zs := zs) h2
    unfold strKeys; rw [i]; rfl
theorem keys_put (kvs : List (Key × D)) (k : Key) (d : D) : (k ∈ keysOf kvs ∧ keysOf (putD kvs k d) = keysOf kvs) ∨ (k ∉ keysOf kvs ∧ keysOf (putD kvs k d) = keysOf kvs ++ [k]) := by
  unfold putD
  by_cases h : (kvs.any fun kv => decide (kv.1 = k)) = true
  · rw [if_pos h]
    left
    refine ⟨?_, ?_⟩
    · obtain ⟨kv, h1, h2⟩ := List.any_eq_true.mp h
      exact List.mem_map.mpr ⟨kv, h1, by simpa using h2⟩
    · unfold keysOf
      rw [List.map_map]
      refine List.map_congr_left fun kv _ => ?_
      simp only [Function.comp]
      split <;> rfl
  · rw [if_neg h]
    right
    refine ⟨?_, by simp [keysOf]⟩
    intro z
    obtain ⟨kv, h1, h2⟩ := List.mem_map.mp z
    exact h (List.any_eq_true.mpr ⟨kv, h1, by simpa using h2⟩)
/-- pairs whose values hang on the keys alone -/
theorem val_merge (f : Key → D) (k : Key) : ∀ (ps acc : List (Key × D)), (∀ p ∈ ps, p.2 = f p.1) → (k ∈ keysOf ps → valD (mergeD acc ps) k = some (f k)) ∧ (k ∉ keysOf ps → valD (mergeD acc ps) k = valD acc k)
  | [], acc, _ => ⟨fun h => by simp [keysOf] at h, fun _ => rfl⟩
  | (j, d) :: ps, acc, h => by
    obtain ⟨i1, i2⟩ := val_merge f k ps (putD acc j d) fun p hp => h p (List.mem_cons_of_mem _ hp)
    have e : mergeD acc ((j, d) :: ps) = mergeD (putD acc j d) ps := (rfl)
    have hd : d = f j := h (j, d) (List.mem_cons_self ..)
    rw [e]
    refine ⟨fun hk => ?_, fun hk => ?_⟩
    · by_cases z : k ∈ keysOf ps
      · exact i1 z
      · rw [i2 z, val_put]
        have w : j = k := by
          unfold keysOf at hk z
          simp only [List.map_cons, List.mem_cons] at hk
          rcases hk with hk | hk
          · exact hk.symm
          · exact absurd hk z
        subst w
        rw [if_pos rfl, hd]
    · unfold keysOf at hk
      simp only [List.map_cons, List.mem_cons, not_or] at hk
      rw [i2 hk.2, val_put, if_neg (Ne.symm hk.1)]
theorem pairs_str (f : Str → D) : ∀ zs : List Str, pairsD (zs.map fun z => .tup [.str z, f z]) = some (zs.map fun z => (.inr z, f z))
  | [] => rfl
  | z :: zs => by
    rw [List.map_cons, pairsD, pairs_str f zs]; rfl
/-! ### slots that may be written, whatever they hold -/
section
variable {e : En} {i j : Nat} {d : D} {ob : Ob} {s : Slot}
theorem asg_vp (h : s.pin = false) : asgS i (.v d) (some s) e = .ok .nx (e.set i (.fz d)) := by unfold asgS; simp only [h]; rfl
theorem asg_op (h : s.pin = false) : asgS i (.o ob) (some s) e = .ok .nx (e.set i (.ow ob)) := by unfold asgS; simp only [h]; rfl
theorem asg_sp (h : s.pin = false) : asgS i (.s j) (some s) e = asgJ i j e[j]? e := by unfold asgS; simp only [h]; rfl
theorem tgS_p (h : s.pin = false) : tgS i d (some s) e = .ok () (e.set i (.fz d)) := by unfold tgS; simp only [h]; rfl
end
theorem pin_un : Slot.pin .un = false := (rfl)
theorem pin_fz {d : D} : Slot.pin (.fz d) = false := (rfl)
theorem pin_ow {ob : Ob} : Slot.pin (.ow ob) = false := (rfl)
theorem dv_isiII {i : Int} : isiD [.int i, .ty "int"] = .d (.bl true) := by
  show (match kitB "int" "int" with | some b => SR.d (.bl b) | none => .no) = _
  rw [show kitB "int" "int" = some true by decide +kernel]
theorem dv_isiIB {i : Int} : isiD [.int i, .ty "bool"] = .d (.bl false) := by
  show (match kitB "int" "bool" with | some b => SR.d (.bl b) | none => .no) = _
  rw [show kitB "int" "bool" = some false by decide +kernel]
theorem dv_sortedD {kvs : List (Key × D)} {zs : List Str} (h : strKeys kvs = some zs) (h2 : zs.length < 64) : sortedOf [.dic kvs] = .ob (.lst ((sortS zs).map D.str)) := by
  show (match strKeys kvs with | some zs => if zs.length < 64 then SR.ob (.lst ((sortS zs).map D.str)) else .no | none => .no) = _
  rw [h]; exact if_pos h2
end PV

namespace PV
open PySem PySem.Spec L2 PyProof.Rows
/-! ### 20. in, not in -/
def flatD : D → Bool
  | .non => true
  | .bl _ => true
  | .int _ => true
  | .str _ => true
  | _ => false
def eqFD : D → D → Bool
  | .non, .non => true
  | .bl a, .bl b => a == b
  | .bl a, .int b => (if a then 1 else 0) == b
  | .int a, .bl b => a == (if b then 1 else 0)
  | .int a, .int b => a == b
  | .str a, .str b => a == b
  | _, _ => false
def inF (x : D) (xs : List D) : Bool := xs.any fun y => eqFD y x
def inB (x y : D) : Option Bool := match y with
  | .str z => match x with
    | .str w => if w.length = 1 then some (decide (w.cps.getD 0 0 ∈ z.cps.toList)) else none
    | _ => none
  | .dic kvs => match keyD x with
    | some k => some (valD kvs k).isSome
    | none => none
  | .tup ds => if (flatD x && ds.all flatD) = true then some (inF x ds) else none
  | .lst ds => if (flatD x && ds.all flatD) = true then some (inF x ds) else none
  | .scr ds => if (flatD x && ds.all flatD) = true then some (inF x ds) else none
  | _ => none
def inD (x y : D) : SR := match inB x y with
  | some b => .d (.bl b)
  | none => .no
def notInD (x y : D) : SR := match inB x y with
  | some b => .d (.bl !b)
  | none => .no
section
variable {K : PySem.W.Frag} {F H : Hp}
theorem flat_rep {d : D} {x : V} (h : Rep K F d x) (f : flatD d = true) : flatV x = true := by
  cases d with
  | non => rw [Rep] at h; subst h; rfl
  | bl b => rw [Rep] at h; subst h; rfl
  | int i => rw [Rep] at h; subst h; rfl
  | str s => rw [Rep] at h; subst h; rfl
  | _ => cases f
theorem flat_view {d : D} {x : V} (h : View K F H d x) (f : flatD d = true) : Rep K F d x := by
  rcases h with h | ⟨a, o, e, q, r⟩
  · exact h
  · cases o <;> subst q <;> cases f
theorem eqF_rep {d d' : D} {x y : V} (h : Rep K F d x) (h' : Rep K F d' y) (f : flatD d = true) (f' : flatD d' = true) : eqFD d d' = eqV x y := by
  cases d with
  | non =>
    rw [Rep] at h; subst h
    cases d' with
    | non => rw [Rep] at h'; subst h'; rfl
    | bl b => rw [Rep] at h'; subst h'; rfl
    | int i => rw [Rep] at h'; subst h'; rfl
    | str s => rw [Rep] at h'; subst h'; rfl
    | _ => cases f'
  | bl b =>
    rw [Rep] at h; subst h
    cases d' with
    | non => rw [Rep] at h'; subst h'; rfl
    | bl b => rw [Rep] at h'; subst h'; rfl
    | int i => rw [Rep] at h'; subst h'; rfl
    | str s => rw [Rep] at h'; subst h'; rfl
    | _ => cases f'
  | int i =>
    rw [Rep] at h; subst h
    cases d' with
    | non => rw [Rep] at h'; subst h'; rfl
    | bl b => rw [Rep] at h'; subst h'; rfl
    | int i => rw [Rep] at h'; subst h'; rfl
    | str s => rw [Rep] at h'; subst h'; rfl
    | _ => cases f'
  | str s =>
    rw [Rep] at h; subst h
    cases d' with
    | non => rw [Rep] at h'; subst h'; rfl
    | bl b => rw [Rep] at h'; subst h'; rfl
    | int i => rw [Rep] at h'; subst h'; rfl
    | str s => rw [Rep] at h'; subst h'; rfl
    | _ => cases f'
  | _ => cases f
theorem inF_rep {d : D} {x : V} (h : Rep K F d x) (f : flatD d = true) : ∀ {ds : List D} {vs : List V}, Reps K F ds vs → ds.all flatD = true → vs.all flatV = true ∧ inF d ds = inV x vs
  | [], vs, r, _ => by rw [Reps] at r; subst r; exact ⟨rfl, rfl⟩
  | d' :: ds, vs, r, g => by
    rw [Reps] at r
    obtain ⟨y, w, rfl, r1, r2⟩ := r
    rw [List.all_cons, Bool.and_eq_true] at g
    obtain ⟨i1, i2⟩ := inF_rep h f r2 g.2
    refine ⟨by rw [List.all_cons, flat_rep r1 g.1, i1]; rfl, ?_⟩
    unfold inF inV at i2 ⊢
    rw [List.any_cons, List.any_cons, i2, eqF_rep r1 h g.1 f]
end
theorem OpR.or' {X : Cx} {f : Value → Value → Sem Value} {r r' : R2} (h : OpR X f r) (h' : OpR X f r') : OpR X f (fun x y H Q => r x y H Q ∨ r' x y H Q) := fun pins s σ H x y v u Q I r1 r2 q => q.elim (h pins s σ H x y v u Q I r1 r2) (h' pins s σ H x y v u Q I r1 r2)
theorem op_in_dic {X : Cx} (hu : X.A.units + 1 < cLine) : OpR X (compareOp .In) (fun x y H Q => ∃ a r, y = .ref a ∧ DGet H a x r ∧ Q (.bl r.isSome) H) := by
  intro pins s σ H x y v u Q I rx ry ⟨a, r, ey, g, q⟩
  subst ey
  cases (show u = Value.ref a from ry)
  exact d_in hu I g rx fun s' I' => ⟨.bl r.isSome, H, I', rfl, q⟩
theorem op_notIn_dic {X : Cx} (hu : X.A.units + 1 < cLine) : OpR X (compareOp .NotIn) (fun x y H Q => ∃ a r, y = .ref a ∧ DGet H a x r ∧ Q (.bl (!r.isSome)) H) := by
  intro pins s σ H x y v u Q I rx ry ⟨a, r, ey, g, q⟩
  subst ey
  cases (show u = Value.ref a from ry)
  exact d_notIn hu I g rx fun s' I' => ⟨.bl (!r.isSome), H, I', rfl, q⟩
def rInX (X : Cx) : R2 := fun x y H Q => (rIn X.K false x y H Q ∨ (∃ (c : Nat) (z : Str), x = .str ⟨#[c]⟩ ∧ y = .str z ∧ Q (.bl (decide (c ∈ z.cps.toList))) H)) ∨ (∃ a r, y = .ref a ∧ DGet H a x r ∧ Q (.bl r.isSome) H)
def rNotInX (X : Cx) : R2 := fun x y H Q => (rIn X.K true x y H Q ∨ (∃ (c : Nat) (z : Str), x = .str ⟨#[c]⟩ ∧ y = .str z ∧ Q (.bl (!decide (c ∈ z.cps.toList))) H)) ∨ (∃ a r, y = .ref a ∧ DGet H a x r ∧ Q (.bl (!r.isSome)) H)
theorem one_sign {w : Str} (h : w.length = 1) : w = ⟨#[w.cps.getD 0 0]⟩ := by
  obtain ⟨⟨l⟩⟩ := w
  have hl : l.length = 1 := h
  match l, hl with
  | [c], _ => rfl
theorem in_cases {X : Cx} {F H : Hp} {d d' : D} {x y : V} {b : Bool} (s : Same F H) (hx : View X.K F H d x) (hy : View X.K F H d' y) (h : inB d d' = some b) :
    (∃ p xs, y = .ref p ∧ (SqL X.K H p xs ∨ SqT X.K H p xs) ∧ flatV x = true ∧ xs.all flatV = true ∧ inV x xs = b) ∨ (∃ (c : Nat) (z : Str), x = .str ⟨#[c]⟩ ∧ y = .str z ∧ decide (c ∈ z.cps.toList) = b) ∨ (∃ a r, y = .ref a ∧ DGet H a x r ∧ r.isSome = b) := by
  have sq : ∀ {p : Addr} {ds : List D} {vs : List V}, y = .ref p → (SqL X.K H p vs ∨ SqT X.K H p vs) → Reps X.K F ds vs → (if (flatD d && ds.all flatD) = true then some (inF d ds) else none) = some b →
      (∃ p xs, y = .ref p ∧ (SqL X.K H p xs ∨ SqT X.K H p xs) ∧ flatV x = true ∧ xs.all flatV = true ∧ inV x xs = b) := by
    intro p ds vs e q r h
    by_cases f : (flatD d && ds.all flatD) = true
    · rw [if_pos f] at h; cases h
      simp only [Bool.and_eq_true] at f
      have rx := flat_view hx f.1
      obtain ⟨i1, i2⟩ := inF_rep rx f.1 r f.2
      exact ⟨p, vs, e, q, flat_rep rx f.1, i1, i2.symm⟩
    · rw [if_neg f] at h; cases h
  unfold inB at h
  split at h
  · split at h
    · split at h
      · rename_i w hw
        cases h
        obtain rfl := hx.str; obtain rfl := hy.str
        have e := one_sign hw
        refine .inr (.inl ⟨w.cps.getD 0 0, _, ?_, rfl, rfl⟩)
        rw [← e]
      · cases h
    · cases h
  · split at h
    · rename_i kvs _ k hk
      cases h
      obtain ⟨a, vs, rfl, q1, r1⟩ := hy.dic s
      obtain rfl := hx.key hk
      refine .inr (.inr ⟨a, valV vs k, rfl, DGet.k q1, ?_⟩)
      cases e : valD kvs k with
      | some dd => obtain ⟨v, w1, _⟩ := (r1.val k).1 _ e; rw [w1]; rfl
      | none => rw [(r1.val k).2 e]; rfl
    · cases h
  · obtain ⟨a, vs, e, _, q1, r1⟩ := hy.tup s; exact .inl (sq e (.inr q1) r1 h)
  · obtain ⟨a, vs, e, q1, r1⟩ := hy.lst s; exact .inl (sq e (.inl (.of q1)) r1 h)
  · obtain ⟨a, vs, e, q1, r1⟩ := hy.scr s; exact .inl (sq e (.inl q1) r1 h)
  · cases h
theorem in_rule (X : Cx) (F H : Hp) (d d' : D) (x y : V) (Q : VK) (s : Same F H) (hx : View X.K F H d x) (hy : View X.K F H d' y) (h : SRok X.K F H Q (inD d d')) : rInX X x y H Q := by
  unfold inD at h
  split at h
  · rename_i b hb
    rcases in_cases s hx hy hb with ⟨p, xs, e, q, f1, f2, f3⟩ | ⟨c, z, e1, e2, e3⟩ | ⟨a, r, e, g, q⟩
    · exact .inl (.inl ⟨p, xs, e, q, f1, f2, by rw [f3]; exact h.bl⟩)
    · exact .inl (.inr ⟨c, z, e1, e2, by rw [e3]; exact h.bl⟩)
    · exact .inr ⟨a, r, e, g, by rw [q]; exact h.bl⟩
  · exact h.elim
theorem notIn_rule (X : Cx) (F H : Hp) (d d' : D) (x y : V) (Q : VK) (s : Same F H) (hx : View X.K F H d x) (hy : View X.K F H d' y) (h : SRok X.K F H Q (notInD d d')) : rNotInX X x y H Q := by
  unfold notInD at h
  split at h
  · rename_i b hb
    rcases in_cases s hx hy hb with ⟨p, xs, e, q, f1, f2, f3⟩ | ⟨c, z, e1, e2, e3⟩ | ⟨a, r, e, g, q⟩
    · exact .inl (.inl ⟨p, xs, e, q, f1, f2, by rw [f3]; exact h.bl⟩)
    · exact .inl (.inr ⟨c, z, e1, e2, by rw [e3]; exact h.bl⟩)
    · exact .inr ⟨a, r, e, g, by rw [q]; exact h.bl⟩
  · exact h.elim
section
variable {G : Prg} {call : Nat → FSem} {C : Cxt}
theorem SE.mem {a b : Expr} {ma mb : M Rv} {pos : Pos} (ha : SE G call C a ma) (hb : SE G call C b mb) (hm : behindInMarks .In b = false := by rfl) : SE G call C (.Compare a [.In] [b] pos) (c2 inD ma mb) := SE.cmp (r := rInX) (fun X ok => OpR.or' (OpR.or' op_in_seq op_in_sign) (op_in_dic (hu_of ok.room))) in_rule ha hb hm
theorem SE.notMem {a b : Expr} {ma mb : M Rv} {pos : Pos} (ha : SE G call C a ma) (hb : SE G call C b mb) (hm : behindInMarks .NotIn b = false := by rfl) : SE G call C (.Compare a [.NotIn] [b] pos) (c2 notInD ma mb) := SE.cmp (r := rNotInX) (fun X ok => OpR.or' (OpR.or' op_notIn_seq op_notIn_sign) (op_notIn_dic (hu_of ok.room))) notIn_rule ha hb hm
theorem ST.mem {a b : Expr} {ma mb : M Rv} {pos : Pos} (ha : SE G call C a ma) (hb : SE G call C b mb) (hm : behindInMarks .In b = false := by rfl) : ST G call C (.Compare a [.In] [b] pos) (cB (c2 inD ma mb)) := ST.cmp (r := rInX) (fun X ok => OpR.or' (OpR.or' op_in_seq op_in_sign) (op_in_dic (hu_of ok.room))) in_rule ha hb hm
theorem ST.notMem {a b : Expr} {ma mb : M Rv} {pos : Pos} (ha : SE G call C a ma) (hb : SE G call C b mb) (hm : behindInMarks .NotIn b = false := by rfl) : ST G call C (.Compare a [.NotIn] [b] pos) (cB (c2 notInD ma mb)) := ST.cmp (r := rNotInX) (fun X ok => OpR.or' (OpR.or' op_notIn_seq op_notIn_sign) (op_notIn_dic (hu_of ok.room))) notIn_rule ha hb hm
end
/-! ### all, any, sum -/
def boolsD : List D → Option (List Bool)
  | [] => some []
  | .bl b :: ds => (boolsD ds).map (b :: ·)
  | _ => none
theorem boolsD_eq : ∀ {ds : List D} {zs : List Bool}, boolsD ds = some zs → ds = zs.map D.bl
  | [], zs, h => by cases h; rfl
  | d :: ds, zs, h => by
    cases d <;> simp only [boolsD, Option.map_eq_some_iff, reduceCtorEq] at h
    obtain ⟨r, h1, rfl⟩ := h
    rw [boolsD_eq h1]; rfl
theorem reps_bools {K : PySem.W.Frag} {F : Hp} : ∀ {zs : List Bool} {vs : List V}, Reps K F (zs.map D.bl) vs → vs = zs.map V.bl
  | [], vs, h => by simpa [Reps] using h
  | z :: zs, vs, h => by
    rw [List.map_cons, Reps] at h; obtain ⟨v, r, rfl, h1, h2⟩ := h
    rw [Rep] at h1; rw [reps_bools h2, h1]; rfl
def allD : List D → SR
  | [.lst ds] => match boolsD ds with
    | some bs => .d (.bl (bs.all id))
    | none => .no
  | _ => .no
def anyD : List D → SR
  | [.lst ds] => match boolsD ds with
    | some bs => .d (.bl (bs.any id))
    | none => .no
  | _ => .no
def sumD : List D → SR
  | [.lst ds] => match intsD ds with
    | some bs => .d (.int bs.sum)
    | none => .no
  | _ => .no
theorem all_rule (X : Cx) (F H : Hp) (ds : List D) (vs : List V) (Q : VK) (s : Same F H) (hv : Views X.K F H ds vs) (h : SRok X.K F H Q (allD ds)) : rAll X.K vs H Q := by
  unfold allD at h
  split at h
  · obtain ⟨v, rfl, h1⟩ := hv.one; obtain ⟨a, ws, rfl, q, r⟩ := h1.lst s
    split at h
    · rename_i bs hb
      obtain rfl := boolsD_eq hb
      obtain rfl := reps_bools r
      exact ⟨a, bs, rfl, .of q, h.bl⟩
    · exact h.elim
  · exact h.elim
theorem any_rule (X : Cx) (F H : Hp) (ds : List D) (vs : List V) (Q : VK) (s : Same F H) (hv : Views X.K F H ds vs) (h : SRok X.K F H Q (anyD ds)) : rAny X.K vs H Q := by
  unfold anyD at h
  split at h
  · obtain ⟨v, rfl, h1⟩ := hv.one; obtain ⟨a, ws, rfl, q, r⟩ := h1.lst s
    split at h
    · rename_i bs hb
      obtain rfl := boolsD_eq hb
      obtain rfl := reps_bools r
      exact ⟨a, bs, rfl, .of q, h.bl⟩
    · exact h.elim
  · exact h.elim
theorem sum_rule (X : Cx) (F H : Hp) (ds : List D) (vs : List V) (Q : VK) (s : Same F H) (hv : Views X.K F H ds vs) (h : SRok X.K F H Q (sumD ds)) : rSum X.K vs H Q := by
  unfold sumD at h
  split at h
  · obtain ⟨v, rfl, h1⟩ := hv.one; obtain ⟨a, ws, rfl, q, r⟩ := h1.lst s
    split at h
    · rename_i bs hb
      obtain rfl := intsD_eq hb
      obtain rfl := reps_ints r
      exact ⟨a, bs, rfl, .of q, h.int⟩
    · exact h.elim
  · exact h.elim
theorem bt_all : bootBuiltins ("all" : Str) = some (.builtin "all") := by decide +kernel
theorem bt_any : bootBuiltins ("any" : Str) = some (.builtin "any") := by decide +kernel
theorem bt_sum : bootBuiltins ("sum" : Str) = some (.builtin "sum") := by decide +kernel
section
variable {G : Prg} {call : Nat → FSem} {C : Cxt} {i j : Nat} {e : Expr} {es : List Expr} {ms : List (M AV)} {p pos : Pos}
theorem SE.all (hg : C.gl[j]? = some ("all" : Str)) (hb : G.blt[i]? = some ("all" : Str)) (ha : SA G call C (e :: es) ms)
    (he : ∀ env, starEach (e :: es) env = (false, eval e env) :: starEach es env := by intro _; rfl) (hpl : ∀ env, (backTo pos (starEach es env)).any (·.1) = false := by intro _; rfl) : SE G call C (.Call (.Name "all" p) (e :: es) [] pos) (cN allD ms) :=
  SE.callB (fun X ok => cr_all ok.calm) all_rule hg hb bt_all ha he hpl
theorem SE.any (hg : C.gl[j]? = some ("any" : Str)) (hb : G.blt[i]? = some ("any" : Str)) (ha : SA G call C (e :: es) ms)
    (he : ∀ env, starEach (e :: es) env = (false, eval e env) :: starEach es env := by intro _; rfl) (hpl : ∀ env, (backTo pos (starEach es env)).any (·.1) = false := by intro _; rfl) : SE G call C (.Call (.Name "any" p) (e :: es) [] pos) (cN anyD ms) :=
  SE.callB (fun X ok => cr_any ok.calm) any_rule hg hb bt_any ha he hpl
theorem SE.sum (hg : C.gl[j]? = some ("sum" : Str)) (hb : G.blt[i]? = some ("sum" : Str)) (ha : SA G call C (e :: es) ms)
    (he : ∀ env, starEach (e :: es) env = (false, eval e env) :: starEach es env := by intro _; rfl) (hpl : ∀ env, (backTo pos (starEach es env)).any (·.1) = false := by intro _; rfl) : SE G call C (.Call (.Name "sum" p) (e :: es) [] pos) (cN sumD ms) :=
  SE.callB (fun X ok => cr_sum ok.calm) sum_rule hg hb bt_sum ha he hpl
end
end PV

namespace PV
open PySem PySem.Spec L2 PyProof.Rows
/-! ### 21. isinstance(x, (T, U)) -/
def isi2 (t n1 n2 : String) : Option Bool := match kitB t n1 with
  | some true => some true
  | some false => kitB t n2
  | none => none
def isi2K (n1 n2 : String) (v : Option D) : M Rv := match v with
  | some d => (match tyName d with
    | some t => (match isi2 t n1 n2 with | some b => ret (.v (.bl b)) | none => fail)
    | none => fail)
  | none => fail
def cIsi2 (n1 n2 : String) (m : M Rv) : M Rv := bnd (cOp m) fun r e => isi2K n1 n2 (r.view e) e
section
variable {G : Prg} {call : Nat → FSem} {C : Cxt}
theorem SE.isi2 {e : Expr} {m : M Rv} {p pos tp p1 p2 : Pos} {k : Nat} {i j i1 j1 i2 j2 : Nat} {n1 n2 : String} {x1 x2 : Str} (hg : C.gl[j]? = some ("isinstance" : Str)) (hb : G.blt[i]? = some ("isinstance" : Str)) (hg1 : C.gl[j1]? = some x1) (hb1 : G.blt[i1]? = some x1) (hv1 : bootBuiltins x1 = some (.type n1)) (hg2 : C.gl[j2]? = some x2) (hb2 : G.blt[i2]? = some x2) (hv2 : bootBuiltins x2 = some (.type n2)) (ha : SE G call C e m)
    (he : ∀ env, starEach [e, .Tuple [.Name x1 p1, .Name x2 p2] k tp] env = (false, eval e env) :: starEach [.Tuple [.Name x1 p1, .Name x2 p2] k tp] env := by intro _; rfl)
    (hpl : ∀ env, (backTo pos (starEach [.Tuple [.Name x1 p1, .Name x2 p2] k tp] env)).any (·.1) = false := by intro _; rfl) :
    SE G call C (.Call (.Name "isinstance" p) [e, .Tuple [.Name x1 p1, .Name x2 p2] k tp] [] pos) (cIsi2 n1 n2 m) := fun X ok => by
  obtain ⟨g1, g2⟩ := ok.gl hg
  obtain ⟨g3, g4⟩ := ok.gl hg1
  obtain ⟨g5, g6⟩ := ok.gl hg2
  refine pe_mono (pe_callB call_isiT g1 (ok.blt i _ hb) bt_isinstance (pa_cons (ha X ok) (pa_cons (pe_tup (pa_cons (pe_bltn (v := .ty n1) g3 (ok.blt i1 x1 hb1) hv1 rfl (okName_name g4) (okName_debug g4)) (pa_cons (pe_bltn (v := .ty n2) g5 (ok.blt i2 x2 hb2) hv2 rfl (okName_name g6) (okName_debug g6)) pa_nil))) pa_nil) (he _)) (okName_name g2) (okName_debug g2) (he _) (hpl _)) fun σ H Q h => ?_
  obtain ⟨g, F, e, R, h⟩ := h
  refine rdO ⟨g, F, e, R, Out.post_imp (post_bnd.mp h) ?_ (fun _ _ q => q)⟩
  intro r e' q v F1 H1 s1 R1 ok1
  refine ⟨show 2 ≤ sizeLine by rw [sizeLine_eq]; decide, fun tp hp => ?_⟩
  unfold isi2K at q
  cases hv : r.view e' with
  | none => rw [hv] at q; exact q.elim
  | some d =>
    rw [hv] at q
    simp only at q
    cases ht : tyName d with
    | none => rw [ht] at q; exact q.elim
    | some t =>
      rw [ht] at q
      simp only at q
      cases hk : PV.isi2 t n1 n2 with
      | none => rw [hk] at q; exact q.elim
      | some b =>
        rw [hk] at q
        have R2 := R1.alloc (.tup [.ty n1, .ty n2]) hp
        have w := ok1.view R2 hv
        refine ⟨v, tp, [.ty n1, .ty n2], .type t, [.type n1, .type n2], b, rfl, upd_same, .cons (.ty _) (.cons (.ty _) .nil), tyX_of R2.sub w ht, ?_, q _ F1 _ s1 R2 (show Rep X.K F1 (.bl b) (.bl b) by rw [Rep])⟩
        unfold PV.isi2 at hk
        split at hk
        · cases hk
          exact kitAny_cons (b := true) (kit_ty (by assumption)) (fun z => by cases z) fun _ => rfl
        · rename_i h1
          refine kitAny_cons (b := false) (kit_ty h1) (fun _ => ?_) fun z => by cases z
          cases b with
          | true => exact kitAny_cons (b := true) (kit_ty hk) (fun z => by cases z) fun _ => rfl
          | false => exact kitAny_cons (b := false) (kit_ty hk) (fun _ => rfl) fun z => by cases z
        · cases hk
/-! ### a op b op' c -/
def chS (v : SR) (g : D → D → SR) (mc : M Rv) (b : Rv) : M Rv := match v with
  | .d (.bl true) => bnd (cOp mc) fun c e => c2k g (b.view e) (c.view e) e
  | .d (.bl false) => ret (.v (.bl false))
  | _ => fail
def chK (f g : D → D → SR) (x y : Option D) (mc : M Rv) (b : Rv) : M Rv := match x, y with
  | some x, some y => chS (f x y) g mc b
  | _, _ => fail
def cChain (f g : D → D → SR) (ma mb mc : M Rv) : M Rv := bnd (cOp ma) fun a => bnd (cOp mb) fun b e => chK f g (a.view e) (b.view e) mc b e
theorem c2k_of {g : D → D → SR} {v w : Option D} {e : En} {P : Rv → En → Prop} (h : (c2k g v w e).post P NoX) : ∃ x y, v = some x ∧ w = some y ∧ (cSR (g x y) e).post P NoX := by
  unfold c2k at h
  cases v with
  | none => exact h.elim
  | some x =>
    cases w with
    | none => exact h.elim
    | some y => exact ⟨x, y, rfl, rfl, h⟩
theorem rdChain {K : PySem.W.Frag} {f f' : D → D → SR} {r r' : R2} {ma mb mc : M Rv} {σ : L2.St} {H : Hp} {Q : VK} (hf : ∀ F H d d' x y Q, Same F H → View K F H d x → View K F H d' y → SRok K F H Q (f d d') → r x y H Q)
    (hf' : ∀ F H d d' x y Q, Same F H → View K F H d x → View K F H d' y → SRok K F H Q (f' d d') → r' x y H Q) (h : RdE K (cChain f f' ma mb mc) σ H Q) : tChain r r' (RdE K ma) (RdE K mb) (RdE K mc) σ H Q := by
  obtain ⟨g, F, e, R, h⟩ := h
  refine rdO_bnd R h fun ra e1 va F1 H1 s1 R1 ok1 h1 => ?_
  refine rdO_bnd R1 h1 fun rb e2 vb F2 H2 s2 R2 ok2 h2 => ?_
  unfold chK at h2
  cases hv : ra.view e2 with
  | none => rw [hv] at h2; exact h2.elim
  | some x =>
    cases hw : rb.view e2 with
    | none => rw [hv, hw] at h2; exact h2.elim
    | some y =>
      rw [hv, hw] at h2
      simp only at h2
      refine hf F2 H2 x y va vb _ R2.sub ((ok1.mono s2).view R2 hv) (ok2.view R2 hw) ?_
      cases hq : f x y with
      | no => rw [hq] at h2; exact h2.elim
      | nt ds => rw [hq] at h2; exact h2.elim
      | ob o => rw [hq] at h2; exact h2.elim
      | d z =>
        rw [hq] at h2
        cases z with
        | bl k =>
          cases k with
          | true =>
            intro v hv'
            rw [Rep] at hv'
            refine ⟨true, hv', ?_⟩
            rw [if_pos rfl]
            refine rdO_bnd R2 h2 fun rc e3 vc F3 H3 s3 R3 ok3 h3 => ?_
            obtain ⟨y', z, w1, w2, h4⟩ := c2k_of h3
            exact hf' F3 H3 y' z vb vc Q R3.sub ((ok2.mono s3).view R3 w1) (ok3.view R3 w2) (SRok.of R3 (Out.post_imp h4 (fun a e3 q2 v2 F3 H3 s4 => q2 v2 F3 H3 (((s1.trans s2).trans s3).trans s4)) (fun _ _ q => q)))
          | false =>
            intro v hv'
            rw [Rep] at hv'
            refine ⟨false, hv', ?_⟩
            rw [if_neg (by decide)]
            exact h2 _ F2 H2 (s1.trans s2) R2 (show Rep K F2 (.bl false) (.bl false) by rw [Rep])
        | _ => exact h2.elim
theorem nolast {op op' : CmpOp} (b c : Expr) (h : op' ≠ .In := by decide) (h2 : op' ≠ .NotIn := by decide) : lastMarks [op, op'] [b, c] = false := nomark c h h2
theorem SE.leLe {a b c : Expr} {ma mb mc : M Rv} {pos : Pos} (ha : SE G call C a ma) (hb : SE G call C b mb) (hc : SE G call C c mc) : SE G call C (.Compare a [.LtE, .LtE] [b, c] pos) (cChain leD leD ma mb mc) := fun X ok =>
  pe_mono (pe_chain op_le op_le (ha X ok) (hb X ok) (hc X ok) (nolast b c)) fun σ H Q h => rdChain (le_rule X) (le_rule X) h
theorem SE.ltLt {a b c : Expr} {ma mb mc : M Rv} {pos : Pos} (ha : SE G call C a ma) (hb : SE G call C b mb) (hc : SE G call C c mc) : SE G call C (.Compare a [.Lt, .Lt] [b, c] pos) (cChain ltD ltD ma mb mc) := fun X ok =>
  pe_mono (pe_chain op_lt op_lt (ha X ok) (hb X ok) (hc X ok) (nolast b c)) fun σ H Q h => rdChain (lt_rule X) (lt_rule X) h
theorem ST.leLe {a b c : Expr} {ma mb mc : M Rv} {pos : Pos} (ha : SE G call C a ma) (hb : SE G call C b mb) (hc : SE G call C c mc) : ST G call C (.Compare a [.LtE, .LtE] [b, c] pos) (cB (cChain leD leD ma mb mc)) := fun X ok =>
  pt_mono (pt_chain op_le op_le (ha X ok) (hb X ok) (hc X ok) (nolast b c)) fun σ H Q h => rdChain (le_rule X) (le_rule X) (rdB h)
theorem ST.ltLt {a b c : Expr} {ma mb mc : M Rv} {pos : Pos} (ha : SE G call C a ma) (hb : SE G call C b mb) (hc : SE G call C c mc) : ST G call C (.Compare a [.Lt, .Lt] [b, c] pos) (cB (cChain ltD ltD ma mb mc)) := fun X ok =>
  pt_mono (pt_chain op_lt op_lt (ha X ok) (hb X ok) (hc X ok) (nolast b c)) fun σ H Q h => rdChain (lt_rule X) (lt_rule X) (rdB h)
end
/-! ### d.update(e) -/
def rUpd : V → List V → Hp → VK → Prop := fun x vs H Q => ∃ a b kvs more, x = .ref a ∧ vs = [.ref b] ∧ a ≠ b ∧ H a = some (.dK kvs) ∧ Rd H b (.dK more) ∧ kvs.length + more.length ≤ sizeLine ∧ Q .non (upd H a (.dK (mergeK kvs more)))
theorem mt_update {X : Cx} : MtR X "dict.update" rUpd := by
  intro pins s σ H x vs v us Q I rx rv h
  obtain ⟨a, b, kvs, more, rfl, rfl, hab, ha, hb, hz, q⟩ := h
  cases rx
  obtain ⟨u, rfl, ru⟩ := rv.one
  cases ru
  obtain ⟨za, hda, va, ra, da⟩ := dk_of I.hok ha
  obtain ⟨zb, hdb, vb, rb, db⟩ := dk_rd I.hok hb
  refine call_meetsIn PySem.F.slot_dict_update da.typeIs PySem.F.entry_dict_update (PySem.F.args_dict_update_2 _ _) (meets_dict_update (mixKind X.prog X.w) a b hab hdb) ⟨va, vb, da, db, by rw [← ra.length, ← rb.length]; exact hz, ?_⟩
  intro h' d1 d2 sb
  have hl : (mergeK kvs more).length ≤ sizeLine := Nat.le_trans (length_mergeK more kvs) hz
  refine ⟨.non, upd H a (.dK (mergeK kvs more)), ?_, rfl, q⟩
  have d1' := d1
  obtain ⟨o, es, ep, ho, _⟩ := d1
  exact d_write (t' := s.toks) I (by rw [ha]; trivial) sb ⟨o, ho⟩ (dk_new hl hda (KV.merge rb ra) d1')
def updF : List D → Ob → Option (D × Ob)
  | [.dic more], .dic kvs => if kvs.length + more.length ≤ sizeLine then some (.non, .dic (mergeD kvs more)) else none
  | _, _ => none
theorem upd_ok : MutOk updF rUpd := by
  intro K F H a o u ds vs r Q s hF ho hv hf q
  unfold updF at hf
  split at hf
  · split at hf
    · cases hf
      obtain ⟨xs, e1, e2⟩ := ho
      rw [Reps] at hv; obtain ⟨v, w, rfl, h1, h2⟩ := hv
      rw [Reps] at h2; subst h2
      rw [Rep] at h1
      obtain ⟨b, ws, rfl, b1, b2⟩ := h1
      refine ⟨a, b, xs, ws, rfl, rfl, ?_, e1, .of (s _ _ b1), by rw [← e2.length, ← b2.length]; assumption, q _ _ ⟨_, rfl, b2.merge e2⟩ (by rw [Rep])⟩
      intro z; subst z; rw [hF] at b1; cases b1
    · cases hf
  · cases hf
section
variable {G : Prg} {call : Nat → FSem} {C : Cxt} {i : Nat} {e : Expr} {es : List Expr} {x : Str} {ns : List (M Rv)} {xpos apos cpos : Pos}
theorem SE.update (hN : C.N[i]? = some x) (hvs : C.vs[i]? = some true) (ha : SL G call C (e :: es) ns)
    (hbase : ∀ env, attributeBase (.Name x xpos) "update" env (eval (.Name x xpos) env) = eval (.Name x xpos) env := by intro _; rfl)
    (hfew : ∀ env, ((backTo cpos (starEach (e :: es) env)).all (fun x => !x.1) && (backToKw cpos (keywordEach [] env)).all (fun x => x.1.isSome)
      && decide ((e :: es).length + ([] : List Keyword).length + (if ([] : List Keyword).isEmpty then 0 else 1) < 30)) = true := by intro _; rfl)
    (hline : (apos.endLine == cpos.line) = true := by rfl) (hs : ∀ env, starEach (e :: es) env = (false, eval e env) :: starEach es env := by intro _; rfl) (hplain : ∀ env, (backTo cpos (starEach es env)).any (·.1) = false := by intro _; rfl) :
    SE G call C (.Call (.Attribute (.Name x xpos) "update" apos) (e :: es) [] cpos) (cMut i "dict" updF ns) :=
  SE.mut PySem.F.plainAttrs_dict PySem.F.slot_dict_update PySem.F.type_dict_update (fun X ok => mt_update) (fun X => upd_ok) hN hvs ha hbase hfew hline hs hplain
theorem SE.insert (hN : C.N[i]? = some x) (hvs : C.vs[i]? = some true) (ha : SL G call C (e :: es) ns)
    (hbase : ∀ env, attributeBase (.Name x xpos) "insert" env (eval (.Name x xpos) env) = eval (.Name x xpos) env := by intro _; rfl)
    (hfew : ∀ env, ((backTo cpos (starEach (e :: es) env)).all (fun x => !x.1) && (backToKw cpos (keywordEach [] env)).all (fun x => x.1.isSome)
      && decide ((e :: es).length + ([] : List Keyword).length + (if ([] : List Keyword).isEmpty then 0 else 1) < 30)) = true := by intro _; rfl)
    (hline : (apos.endLine == cpos.line) = true := by rfl) (hs : ∀ env, starEach (e :: es) env = (false, eval e env) :: starEach es env := by intro _; rfl) (hplain : ∀ env, (backTo cpos (starEach es env)).any (·.1) = false := by intro _; rfl) :
    SE G call C (.Call (.Attribute (.Name x xpos) "insert" apos) (e :: es) [] cpos) (cMut i "list" insF ns) :=
  SE.mut PySem.F.plainAttrs_list PySem.F.slot_list_insert PySem.F.type_list_insert (fun X ok => mt_insert) (fun X => ins_ok) hN hvs ha hbase hfew hline hs hplain
theorem SE.extend (hN : C.N[i]? = some x) (hvs : C.vs[i]? = some true) (ha : SL G call C (e :: es) ns)
    (hbase : ∀ env, attributeBase (.Name x xpos) "extend" env (eval (.Name x xpos) env) = eval (.Name x xpos) env := by intro _; rfl)
    (hfew : ∀ env, ((backTo cpos (starEach (e :: es) env)).all (fun x => !x.1) && (backToKw cpos (keywordEach [] env)).all (fun x => x.1.isSome)
      && decide ((e :: es).length + ([] : List Keyword).length + (if ([] : List Keyword).isEmpty then 0 else 1) < 30)) = true := by intro _; rfl)
    (hline : (apos.endLine == cpos.line) = true := by rfl) (hs : ∀ env, starEach (e :: es) env = (false, eval e env) :: starEach es env := by intro _; rfl) (hplain : ∀ env, (backTo cpos (starEach es env)).any (·.1) = false := by intro _; rfl) :
    SE G call C (.Call (.Attribute (.Name x xpos) "extend" apos) (e :: es) [] cpos) (cMut i "list" extF ns) :=
  SE.mut PySem.F.plainAttrs_list PySem.F.slot_list_extend PySem.F.type_list_extend (fun X ok => mt_extend) (fun X => ext_ok) hN hvs ha hbase hfew hline hs hplain
end
end PV

namespace PV
open PySem PySem.Spec L2 PyProof.Rows
section
variable {e : En} {m ma mb mc : M Rv} {n1 n2 : String} {d x y : D}
theorem ap_isi2 : cIsi2 n1 n2 m e = (cOp m e).bind fun r e => isi2K n1 n2 (r.view e) e := ap_bnd
def isi2B (b : Option Bool) : M Rv := match b with
  | some b => ret (.v (.bl b))
  | none => fail
def isi2T (t : Option String) (n1 n2 : String) : M Rv := match t with
  | some t => isi2B (isi2 t n1 n2)
  | none => fail
theorem isi2K_at : isi2K n1 n2 (some d) e = isi2T (tyName d) n1 n2 e := by
  cases h : tyName d with
  | none => unfold isi2K isi2T; simp only [h]
  | some t => unfold isi2K isi2T isi2B; simp only [h]; all_goals (cases isi2 t n1 n2 <;> rfl)
theorem isi2T_some {t : String} : isi2T (some t) n1 n2 e = isi2B (isi2 t n1 n2) e := (rfl)
theorem isi2B_some {b : Bool} : isi2B (some b) e = .ok (.v (.bl b)) e := (rfl)
theorem ap_chain {f g : D → D → SR} : cChain f g ma mb mc e = (cOp ma e).bind fun a => bnd (cOp mb) fun b e => chK f g (a.view e) (b.view e) mc b e := ap_bnd
theorem chK_some {f g : D → D → SR} {b : Rv} : chK f g (some x) (some y) mc b e = chS (f x y) g mc b e := (rfl)
theorem chS_true {g : D → D → SR} {b : Rv} : chS (.d (.bl true)) g mc b e = (cOp mc e).bind fun c e => c2k g (b.view e) (c.view e) e := ap_bnd
theorem chS_false {g : D → D → SR} {b : Rv} : chS (.d (.bl false)) g mc b e = .ok (.v (.bl false)) e := (rfl)
end
section
variable {d x : D} {s t : Str} {ds es : List D} {kvs more : List (Key × D)} {i : Int} {b : Bool}
def inS (v : Option Bool) : SR := match v with
  | some b => .d (.bl b)
  | none => .no
def notInS (v : Option Bool) : SR := match v with
  | some b => .d (.bl !b)
  | none => .no
theorem inS_some : inS (some b) = .d (.bl b) := (rfl)
theorem notInS_some : notInS (some b) = .d (.bl !b) := (rfl)
theorem dv_in : inD x d = inS (inB x d) := (rfl)
theorem dv_notIn : notInD x d = notInS (inB x d) := (rfl)
theorem strs_flat : ∀ zs : List Str, (zs.map D.str).all flatD = true
  | [] => rfl
  | z :: zs => by rw [List.map_cons, List.all_cons, strs_flat zs]; rfl
theorem inF_strs (z : Str) : ∀ zs : List Str, inF (.str z) (zs.map D.str) = decide (z ∈ zs)
  | [] => rfl
  | w :: zs => by
    have i := inF_strs z zs
    unfold inF at i ⊢
    rw [List.map_cons, List.any_cons, i]
    show ((w == z) || decide (z ∈ zs)) = decide (z ∈ w :: zs)
    by_cases h : w = z
    · subst h; simp
    · have h2 : ¬ z = w := fun q => h q.symm
      have h3 : (w == z) = false := by simp [h]
      rw [h3]
      simp [h2]
theorem inB_strsT {z : Str} {zs : List Str} : inB (.str z) (.tup (zs.map D.str)) = some (decide (z ∈ zs)) := by
  show (if (true && (zs.map D.str).all flatD) = true then some (inF (.str z) (zs.map D.str)) else none) = _
  rw [strs_flat, inF_strs]; rfl
theorem inB_strsL {z : Str} {zs : List Str} : inB (.str z) (.lst (zs.map D.str)) = some (decide (z ∈ zs)) := by
  show (if (true && (zs.map D.str).all flatD) = true then some (inF (.str z) (zs.map D.str)) else none) = _
  rw [strs_flat, inF_strs]; rfl
theorem inB_dic : inB (.str s) (.dic kvs) = some (valD kvs (.inr s)).isSome := (rfl)
/-- a text in a tuple of texts that is written out -/
theorem inB_T1 {z a : Str} : inB (.str z) (.tup [.str a]) = some (decide (a = z)) := by
  show some (inF (.str z) [.str a]) = _
  unfold inF; simp [eqFD]; rfl
theorem inB_T2 {z a b : Str} : inB (.str z) (.tup [.str a, .str b]) = some (decide (a = z) || decide (b = z)) := by
  have := @inB_strsT z [a, b]
  simp only [List.map_cons, List.map_nil] at this
  rw [this]
  congr 1
  by_cases h1 : a = z
  · subst h1; simp
  · by_cases h2 : b = z
    · subst h2; simp
    · simp [h1, h2, Ne.symm h1, Ne.symm h2]
theorem inB_T3 {z a b c : Str} : inB (.str z) (.tup [.str a, .str b, .str c]) = some (decide (a = z) || decide (b = z) || decide (c = z)) := by
  have := @inB_strsT z [a, b, c]
  simp only [List.map_cons, List.map_nil] at this
  rw [this]
  congr 1
  by_cases h1 : a = z
  · subst h1; simp
  · by_cases h2 : b = z
    · subst h2; simp
    · by_cases h3 : c = z
      · subst h3; simp
      · simp [h1, h2, h3, Ne.symm h1, Ne.symm h2, Ne.symm h3]
theorem dv_upd (h : kvs.length + more.length ≤ sizeLine) : updF [.dic more] (.dic kvs) = some (.non, .dic (mergeD kvs more)) := by unfold updF; simp only [h, if_true]
theorem bools_map : ∀ bs : List Bool, boolsD (bs.map D.bl) = some bs
  | [] => rfl
  | b :: bs => by rw [List.map_cons, boolsD, bools_map bs]; rfl
theorem dv_all {bs : List Bool} : allD [.lst (bs.map D.bl)] = .d (.bl (bs.all id)) := by unfold allD; simp only [bools_map]
theorem dv_any {bs : List Bool} : anyD [.lst (bs.map D.bl)] = .d (.bl (bs.any id)) := by unfold anyD; simp only [bools_map]
theorem ty_non : tyName .non = some "NoneType" := (rfl)
theorem ty_bl : tyName (.bl b) = some "bool" := (rfl)
theorem ty_int : tyName (.int i) = some "int" := (rfl)
theorem ty_str : tyName (.str s) = some "str" := (rfl)
theorem ty_tup : tyName (.tup ds) = some "tuple" := (rfl)
theorem ty_lst : tyName (.lst ds) = some "list" := (rfl)
theorem ty_dic : tyName (.dic kvs) = some "dict" := (rfl)
def isiK (b : Option Bool) : SR := match b with
  | some b => .d (.bl b)
  | none => .no
def isiT (t : Option String) (n : String) : SR := match t with
  | some t => isiK (kitB t n)
  | none => .no
theorem dv_isi {n : String} : isiD [d, .ty n] = isiT (tyName d) n := by
  cases h : tyName d with
  | none => unfold isiD isiT; simp only [h]
  | some t => unfold isiD isiT isiK; simp only [h]; all_goals (cases kitB t n <;> rfl)
theorem isiT_some {t n : String} : isiT (some t) n = isiK (kitB t n) := (rfl)
theorem isiK_some : isiK (some b) = .d (.bl b) := (rfl)
end
/-! what the built-in classes are to one another -/
theorem kb_nn : kitB "NoneType" "int" = some false := by decide +kernel
theorem kb_nb : kitB "NoneType" "bool" = some false := by decide +kernel
theorem kb_ns : kitB "NoneType" "str" = some false := by decide +kernel
theorem kb_nt : kitB "NoneType" "tuple" = some false := by decide +kernel
theorem kb_nl : kitB "NoneType" "list" = some false := by decide +kernel
theorem kb_bi : kitB "bool" "int" = some true := by decide +kernel
theorem kb_bb : kitB "bool" "bool" = some true := by decide +kernel
theorem kb_bs : kitB "bool" "str" = some false := by decide +kernel
theorem kb_bt : kitB "bool" "tuple" = some false := by decide +kernel
theorem kb_bl : kitB "bool" "list" = some false := by decide +kernel
theorem kb_ii : kitB "int" "int" = some true := by decide +kernel
theorem kb_ib : kitB "int" "bool" = some false := by decide +kernel
theorem kb_is : kitB "int" "str" = some false := by decide +kernel
theorem kb_it : kitB "int" "tuple" = some false := by decide +kernel
theorem kb_il : kitB "int" "list" = some false := by decide +kernel
theorem kb_si : kitB "str" "int" = some false := by decide +kernel
theorem kb_sb : kitB "str" "bool" = some false := by decide +kernel
theorem kb_ss : kitB "str" "str" = some true := by decide +kernel
theorem kb_st : kitB "str" "tuple" = some false := by decide +kernel
theorem kb_sl : kitB "str" "list" = some false := by decide +kernel
theorem kb_ti : kitB "tuple" "int" = some false := by decide +kernel
theorem kb_tb : kitB "tuple" "bool" = some false := by decide +kernel
theorem kb_ts : kitB "tuple" "str" = some false := by decide +kernel
theorem kb_tt : kitB "tuple" "tuple" = some true := by decide +kernel
theorem kb_tl : kitB "tuple" "list" = some false := by decide +kernel
theorem kb_li : kitB "list" "int" = some false := by decide +kernel
theorem kb_lb : kitB "list" "bool" = some false := by decide +kernel
theorem kb_ls : kitB "list" "str" = some false := by decide +kernel
theorem kb_lt : kitB "list" "tuple" = some false := by decide +kernel
theorem kb_ll : kitB "list" "list" = some true := by decide +kernel
theorem kb_di : kitB "dict" "int" = some false := by decide +kernel
theorem kb_db : kitB "dict" "bool" = some false := by decide +kernel
theorem kb_ds : kitB "dict" "str" = some false := by decide +kernel
theorem kb_dt : kitB "dict" "tuple" = some false := by decide +kernel
theorem kb_dl : kitB "dict" "list" = some false := by decide +kernel
theorem i2_n : isi2 "NoneType" "tuple" "list" = some false := by unfold isi2; rw [kb_nt]; exact kb_nl
theorem i2_b : isi2 "bool" "tuple" "list" = some false := by unfold isi2; rw [kb_bt]; exact kb_bl
theorem i2_i : isi2 "int" "tuple" "list" = some false := by unfold isi2; rw [kb_it]; exact kb_il
theorem i2_s : isi2 "str" "tuple" "list" = some false := by unfold isi2; rw [kb_st]; exact kb_sl
theorem i2_t : isi2 "tuple" "tuple" "list" = some true := by unfold isi2; rw [kb_tt]
theorem i2_l : isi2 "list" "tuple" "list" = some true := by unfold isi2; rw [kb_lt]; exact kb_ll
end PV

namespace PV
open PySem PySem.Spec L2 PyProof.Rows
/-! ### 22. dicts of texts to numbers 0 .. 999, and the tuples of pairs that they are told as -/
def gv (kvs : List (Key × D)) (s : Str) : Int := match valD kvs (.inr s) with
  | some (.int v) => v
  | _ => 0
structure PkV (U : List Str) (kvs : List (Key × D)) (zs : List Str) : Prop where
  keys : keysOf kvs = zs.map Sum.inr
  nd : zs.Nodup
  sub : ∀ z, z ∈ zs → z ∈ U
  vals : ∀ s d, valD kvs (.inr s) = some d → ∃ v : Int, d = .int v ∧ 0 ≤ v ∧ v ≤ 999
section
variable {U : List Str} {kvs : List (Key × D)} {zs : List Str}
theorem PkV.len (h : PkV U kvs zs) : kvs.length = zs.length := by
  have := congrArg List.length h.keys
  simpa [keysOf] using this
theorem PkV.few (h : PkV U kvs zs) : zs.length ≤ U.length := List.Nodup.length_le_of_subset h.nd fun z hz => h.sub z hz
theorem PkV.get (h : PkV U kvs zs) (s : Str) : (valD kvs (.inr s)).getD (.int 0) = .int (gv kvs s) ∧ 0 ≤ gv kvs s ∧ gv kvs s ≤ 999 := by
  unfold gv
  cases e : valD kvs (.inr s) with
  | none => exact ⟨rfl, by decide, by decide⟩
  | some d => obtain ⟨v, rfl, h1, h2⟩ := h.vals s d e; exact ⟨rfl, h1, h2⟩
theorem PkV.at (h : PkV U kvs zs) {s : Str} (hs : s ∈ zs) : valD kvs (.inr s) = some (.int (gv kvs s)) := by
  have hm : (Sum.inr s : Key) ∈ keysOf kvs := by rw [h.keys]; exact List.mem_map.mpr ⟨s, hs, rfl⟩
  obtain ⟨d, e⟩ := val_some hm
  obtain ⟨v, rfl, _⟩ := h.vals s d e
  unfold gv; rw [e]
theorem PkV.out (h : PkV U kvs zs) {s : Str} (hs : s ∉ zs) : gv kvs s = 0 := by
  have hm : (Sum.inr s : Key) ∉ keysOf kvs := by
    rw [h.keys]; intro q
    obtain ⟨z, h1, h2⟩ := List.mem_map.mp q
    have : z = s := by simpa using h2
    subst this; exact hs h1
  unfold gv; rw [val_none.mpr hm]
theorem gv_put (kvs : List (Key × D)) (x z : Str) (v : Int) : gv (putD kvs (.inr x) (.int v)) z = if x = z then v else gv kvs z := by
  unfold gv
  rw [val_put]
  by_cases h : x = z
  · subst h; simp
  · have : ¬ ((Sum.inr x : Key) = Sum.inr z) := by simpa using h
    rw [if_neg this, if_neg h]
theorem PkV.put (h : PkV U kvs zs) (x : Str) (v : Int) (hx : x ∈ U) (h1 : 0 ≤ v) (h2 : v ≤ 999) : ∃ zs', PkV U (putD kvs (.inr x) (.int v)) zs' := by
  have hv : ∀ s d, valD (putD kvs (.inr x) (.int v)) (.inr s) = some d → ∃ v : Int, d = .int v ∧ 0 ≤ v ∧ v ≤ 999 := by
    intro s d hd
    rw [val_put] at hd
    split at hd
    · cases hd; exact ⟨v, rfl, h1, h2⟩
    · exact h.vals s d hd
  rcases keys_put kvs (.inr x) (.int v) with ⟨_, e⟩ | ⟨hn, e⟩
  · exact ⟨zs, ⟨by rw [e]; exact h.keys, h.nd, h.sub, hv⟩⟩
  · refine ⟨zs ++ [x], ⟨by rw [e, h.keys]; simp, ?_, ?_, hv⟩⟩
    · rw [List.nodup_append]
      refine ⟨h.nd, by simp, ?_⟩
      intro a ha b hb
      simp only [List.mem_singleton] at hb
      subst hb
      intro q; subst q
      apply hn; rw [h.keys]; exact List.mem_map.mpr ⟨a, ha, rfl⟩
    · intro z hz
      rcases List.mem_append.mp hz with hz | hz
      · exact h.sub z hz
      · simp only [List.mem_singleton] at hz; subst hz; exact hx
end
/-- the names that hold something, rising -/
def canN (g : Str → Int) (zs : List Str) : List Str := (sortS zs).filter fun z => decide (g z ≠ 0)
def tupP (g : Str → Int) (ns : List Str) : List D := ns.map fun z => .tup [.str z, .int (g z)]
theorem canN_mem {g : Str → Int} {zs : List Str} {z : Str} : z ∈ canN g zs ↔ z ∈ zs ∧ g z ≠ 0 := by
  unfold canN
  rw [List.mem_filter, (sortS_perm zs).mem_iff]
  simp
theorem canN_nd {g : Str → Int} {zs : List Str} (h : zs.Nodup) : (canN g zs).Nodup := by
  unfold canN
  exact List.Nodup.sublist (List.filter_sublist) ((sortS_perm zs).symm.nodup h)
theorem canN_ext {g g' : Str → Int} {zs zs' : List Str} (h : zs.Nodup) (h' : zs'.Nodup) (hg : ∀ z, g z = g' z) (o : ∀ z, z ∉ zs → g z = 0) (o' : ∀ z, z ∉ zs' → g' z = 0) : canN g zs = canN g' zs' := by
  have hp : (canN g zs).Perm (canN g' zs') := by
    refine (List.perm_ext_iff_of_nodup (canN_nd h) (canN_nd h')).mpr fun z => ?_
    rw [canN_mem, canN_mem, hg z]
    constructor
    · rintro ⟨_, q⟩; exact ⟨Classical.byContradiction fun w => q (o' z w), q⟩
    · rintro ⟨_, q⟩; exact ⟨Classical.byContradiction fun w => q (by rw [← hg z]; exact o z w), q⟩
  exact List.Perm.eq_of_pairwise (fun a b _ _ => leS_anti a b) ((sortS_pw zs).filter _) ((sortS_pw zs').filter _) hp
/-- told as a tuple -/
def told (kvs : List (Key × D)) (zs : List Str) : List D := tupP (gv kvs) (canN (gv kvs) zs)
/-- and made a dict again -/
theorem told_pairs (kvs : List (Key × D)) (zs : List Str) : pairsD (told kvs zs) = some ((canN (gv kvs) zs).map fun z => ((.inr z : Key), D.int (gv kvs z))) := pairs_str (fun z => .int (gv kvs z)) _
theorem merge_put_new : ∀ (ps acc : List (Key × D)), (∀ p ∈ ps, p.1 ∉ keysOf acc) → (keysOf ps).Nodup → mergeD acc ps = acc ++ ps
  | [], acc, _, _ => by simp [mergeD]
  | (k, d) :: ps, acc, h, nd => by
    have e : mergeD acc ((k, d) :: ps) = mergeD (putD acc k d) ps := (rfl)
    have hk : k ∉ keysOf acc := h (k, d) (List.mem_cons_self ..)
    have hn : ¬ ((acc.any fun kv => decide (kv.1 = k)) = true) := by
      intro q
      obtain ⟨kv, h1, h2⟩ := List.any_eq_true.mp q
      exact hk (List.mem_map.mpr ⟨kv, h1, by simpa using h2⟩)
    have e2 : putD acc k d = acc ++ [(k, d)] := by unfold putD; rw [if_neg hn]
    unfold keysOf at nd
    rw [List.map_cons, List.nodup_cons] at nd
    rw [e, e2, merge_put_new ps (acc ++ [(k, d)]) ?_ nd.2]
    · simp
    · intro p hp q
      unfold keysOf at q
      rw [List.map_append, List.mem_append] at q
      rcases q with q | q
      · exact h p (List.mem_cons_of_mem _ hp) q
      · simp only [List.map_cons, List.map_nil, List.mem_singleton] at q
        exact nd.1 (List.mem_map.mpr ⟨p, hp, q⟩)
section
variable {U : List Str} {kvs : List (Key × D)} {zs : List Str}
/-- the dict that dict(told) makes -/
def again (kvs : List (Key × D)) (zs : List Str) : List (Key × D) := (canN (gv kvs) zs).map fun z => ((.inr z : Key), D.int (gv kvs z))
theorem keys_again (kvs : List (Key × D)) (zs : List Str) : keysOf (again kvs zs) = (canN (gv kvs) zs).map Sum.inr := by
  unfold again keysOf; rw [List.map_map]; rfl
theorem merge_again (h : PkV U kvs zs) : mergeD [] (again kvs zs) = again kvs zs := by
  rw [merge_put_new (again kvs zs) [] (fun p _ q => by simp [keysOf] at q)]
  · simp
  · rw [keys_again]
    have := canN_nd (g := gv kvs) h.nd
    unfold List.Nodup at this ⊢
    rw [List.pairwise_map]
    exact this.imp fun {a b} hab q => hab (by simpa using q)
theorem gv_again (h : PkV U kvs zs) (z : Str) : gv (again kvs zs) z = gv kvs z := by
  obtain ⟨m1, m2⟩ := val_merge (fun k => match k with | .inr z => .int (gv kvs z) | .inl _ => .non) (.inr z) (again kvs zs) [] (by
    intro p hp
    unfold again at hp
    obtain ⟨y, _, rfl⟩ := List.mem_map.mp hp
    rfl)
  rw [merge_again h] at m1 m2
  have hk : (Sum.inr z : Key) ∈ keysOf (again kvs zs) ↔ z ∈ canN (gv kvs) zs := by
    rw [keys_again]
    constructor
    · intro q
      obtain ⟨y, h1, h2⟩ := List.mem_map.mp q
      have : y = z := by simpa using h2
      subst this; exact h1
    · exact fun q => List.mem_map.mpr ⟨z, q, rfl⟩
  by_cases hz : z ∈ canN (gv kvs) zs
  · have := m1 (hk.mpr hz)
    unfold gv at this ⊢
    rw [this]
  · have := m2 (fun q => hz (hk.mp q))
    have e0 : gv kvs z = 0 := by
      by_cases w : z ∈ zs
      · exact Classical.byContradiction fun q => hz (canN_mem.mpr ⟨w, q⟩)
      · exact h.out w
    rw [e0]
    unfold gv
    rw [this]
    rfl
theorem PkV.again (h : PkV U kvs zs) : PkV U (again kvs zs) (canN (gv kvs) zs) := by
  refine ⟨keys_again kvs zs, canN_nd h.nd, fun z hz => h.sub z (canN_mem.mp hz).1, ?_⟩
  intro s d hd
  have hm : (Sum.inr s : Key) ∈ keysOf (PV.again kvs zs) := Classical.byContradiction fun q => by rw [val_none.mpr q] at hd; cases hd
  obtain ⟨m1, _⟩ := val_merge (fun k => match k with | .inr z => .int (gv kvs z) | .inl _ => .non) (.inr s) (PV.again kvs zs) [] (by
    intro p hp
    unfold PV.again at hp
    obtain ⟨y, _, rfl⟩ := List.mem_map.mp hp
    rfl)
  rw [merge_again h] at m1
  have := m1 hm
  rw [this] at hd
  cases hd
  exact ⟨gv kvs s, rfl, (h.get s).2⟩
/-- what is told hangs on what is held alone -/
theorem told_ext {kvs' : List (Key × D)} {zs' : List Str} {U' : List Str} (h : PkV U kvs zs) (h' : PkV U' kvs' zs') (e : ∀ z, gv kvs z = gv kvs' z) : told kvs zs = told kvs' zs' := by
  have ec := canN_ext h.nd h'.nd e (fun z hz => h.out hz) (fun z hz => h'.out hz)
  have ef : gv kvs = gv kvs' := funext e
  unfold told
  rw [ec, ef]
theorem told_again (h : PkV U kvs zs) : told (again kvs zs) (canN (gv kvs) zs) = told kvs zs := told_ext h.again h (gv_again h)
end
end PV

namespace PV
open PySem PySem.Spec L2 PyProof.Rows
/-! ### 23. what a run ends in, stated ahead of the run; scratch slots; loops at the place where they stand -/
def Wp (o : FO) (Q : Rt → List (Option Ob) → Prop) : Prop := ∃ v outs, o = .ok v outs ∧ Q v outs
def WpM {α : Type} (o : Out α) (Q : α → En → Prop) : Prop := ∃ a e, o = .ok a e ∧ Q a e
theorem Wp.at {o X : FO} {Q : Rt → List (Option Ob) → Prop} (h : Wp o Q) (e : o = X) : ∃ v outs, X = .ok v outs ∧ Q v outs := by subst e; exact h
theorem Wp_ok {v : Rt} {outs : List (Option Ob)} {Q : Rt → List (Option Ob) → Prop} : Wp (.ok v outs) Q = Q v outs :=
  propext ⟨fun ⟨_, _, h, q⟩ => by cases h; exact q, fun q => ⟨_, _, rfl, q⟩⟩
theorem WpM_ok {α : Type} {a : α} {e : En} {Q : α → En → Prop} : WpM (.ok a e) Q = Q a e :=
  propext ⟨fun ⟨_, _, h, q⟩ => by cases h; exact q, fun q => ⟨_, _, rfl, q⟩⟩
theorem Wp.mono {o : FO} {Q R : Rt → List (Option Ob) → Prop} (h : Wp o Q) (i : ∀ v u, Q v u → R v u) : Wp o R := by
  obtain ⟨v, u, e, q⟩ := h; exact ⟨v, u, e, i v u q⟩
theorem WpM.mono {α : Type} {o : Out α} {Q R : α → En → Prop} (h : WpM o Q) (i : ∀ v u, Q v u → R v u) : WpM o R := by
  obtain ⟨v, u, e, q⟩ := h; exact ⟨v, u, e, i v u q⟩
theorem Wp.eq {o : FO} {v : Rt} {u : List (Option Ob)} (h : Wp o fun v' u' => v' = v ∧ u' = u) : o = .ok v u := by
  obtain ⟨_, _, e, rfl, rfl⟩ := h; exact e
/-- a slot that may be written and read over: un or fz -/
abbrev Wip := {s : Slot // wbS (some s) = true}
/-- a slot that may be written over -/
abbrev Scr := {s : Slot // s.pin = false}
theorem Wip.pin (t : Wip) : t.1.pin = false := by
  obtain ⟨s, h⟩ := t
  cases s <;> first | rfl | cases h
section
variable {α : Type} {e e' : En} {i j : Nat} {d x : D} {ob : Ob} {m : M Rv} {c : M Bool} {f : D → M Unit} {vs : List Nat} {ds : List D}
theorem asg_vw {t : Wip} : asgS i (.v d) (some t.1) e = .ok .nx (e.set i (.fz d)) := asg_vp t.pin
theorem asg_ow' {t : Wip} : asgS i (.o ob) (some t.1) e = .ok .nx (e.set i (.ow ob)) := asg_op t.pin
theorem asg_sw {t : Wip} : asgS i (.s j) (some t.1) e = asgJ i j e[j]? e := asg_sp t.pin
theorem tgS_w {t : Wip} : tgS i d (some t.1) e = .ok () (e.set i (.fz d)) := tgS_p t.pin
theorem wbS_w {t : Wip} : wbS (some t.1) = true := t.2
theorem asg_vx {t : Scr} : asgS i (.v d) (some t.1) e = .ok .nx (e.set i (.fz d)) := asg_vp t.2
theorem asg_ox {t : Scr} : asgS i (.o ob) (some t.1) e = .ok .nx (e.set i (.ow ob)) := asg_op t.2
theorem asg_sx {t : Scr} : asgS i (.s j) (some t.1) e = asgJ i j e[j]? e := asg_sp t.2
theorem tgS_x {t : Scr} : tgS i d (some t.1) e = .ok () (e.set i (.fz d)) := tgS_p t.2
/-- a for loop, met at X, by what holds between two turns -/
theorem for_inv {ds : List D} {b : D → M Fl} {e : En} {X : Out Fl} (hX : forL ds b e = X) (P : Nat → En → Prop) (h0 : P 0 e)
    (hs : ∀ (i : Nat) (d : D) (e : En), ds[i]? = some d → P i e → WpM (b d e) fun f e' => f = .nx ∧ P (i + 1) e') : ∃ e', X = .ok .nx e' ∧ P ds.length e' := by
  obtain ⟨e', a, b'⟩ := for_run (b := b) P ds 0 e h0 fun i d e hi hp => by
    obtain ⟨f, e', q1, rfl, q2⟩ := hs i d e hi (by rw [Nat.zero_add] at hp; exact hp)
    exact ⟨e', q1, by rw [Nat.zero_add]; exact q2⟩
  exact ⟨e', by rw [← hX]; exact a, by rw [Nat.zero_add] at b'; exact b'⟩
/-- the same, where a turn may end the def -/
theorem for_inv_rt {b : D → M Fl} (P : Nat → En → Prop) (R : Rv → En → Prop) : ∀ (ds : List D) (k : Nat) (e : En), P k e →
    (∀ (i : Nat) (d : D) (e : En), ds[i]? = some d → P (k + i) e → WpM (b d e) fun f e' => (f = .nx ∧ P (k + i + 1) e') ∨ ∃ r, f = .rt r ∧ R r e') →
    WpM (forL ds b e) fun f e' => (f = .nx ∧ P (k + ds.length) e') ∨ ∃ r, f = .rt r ∧ R r e'
  | [], k, e, h, _ => ⟨_, _, rfl, .inl ⟨rfl, h⟩⟩
  | d :: ds, k, e, h, t => by
    obtain ⟨f, e1, q1, q2⟩ := t 0 d e rfl h
    rcases q2 with ⟨rfl, q2⟩ | ⟨r, rfl, q2⟩
    · have := for_inv_rt P R ds (k + 1) e1 q2 fun i d e hi hp => by
        have := t (i + 1) d e (by simpa using hi) (by rw [show k + (i + 1) = k + 1 + i by omega]; exact hp)
        rw [show k + 1 + i + 1 = k + (i + 1) + 1 by omega]; exact this
      rw [for_cons, q1, forK_nx, show k + (d :: ds).length = k + 1 + ds.length by simp only [List.length_cons]; omega]
      exact this
    · exact ⟨_, _, by rw [for_cons, q1, forK_rt], .inr ⟨r, rfl, q2⟩⟩
theorem for_ret {ds : List D} {b : D → M Fl} {e : En} {X : Out Fl} (hX : forL ds b e = X) (P : Nat → En → Prop) (R : Rv → En → Prop) (h0 : P 0 e)
    (hs : ∀ (i : Nat) (d : D) (e : En), ds[i]? = some d → P i e → WpM (b d e) fun f e' => (f = .nx ∧ P (i + 1) e') ∨ ∃ r, f = .rt r ∧ R r e') :
    ∃ e', (X = .ok .nx e' ∧ P ds.length e') ∨ ∃ r, X = .ok (.rt r) e' ∧ R r e' := by
  obtain ⟨f, e', a, h⟩ := for_inv_rt P R ds 0 e h0 fun i d e hi hp => by
    rw [Nat.zero_add] at hp ⊢; exact hs i d e hi hp
  subst hX
  rcases h with ⟨rfl, h⟩ | ⟨r, rfl, h⟩
  · exact ⟨e', .inl ⟨a, by rw [Nat.zero_add] at h; exact h⟩⟩
  · exact ⟨e', .inr ⟨r, a, h⟩⟩
def optL (r : Option D) : List D := match r with | some y => [y] | none => []
/-- a comprehension, met at X -/
theorem comp_inv' (P : Nat → List D → En → Prop) : ∀ (ds : List D) (k : Nat) (zs : List D) (e : En), P k zs e →
    (∀ (i : Nat) (zs : List D) (d : D) (e : En), ds[i]? = some d → P (k + i) zs e → WpM (turnM vs f c m d e) fun r e' => P (k + i + 1) (zs ++ optL r) e') →
    ∃ ys e', compL vs f c m ds e = .ok ys e' ∧ P (k + ds.length) (zs ++ ys) e'
  | [], k, zs, e, h, _ => ⟨[], e, rfl, by simpa using h⟩
  | d :: ds, k, zs, e, h, t => by
    obtain ⟨r, e1, q1, q2⟩ := t 0 zs d e rfl h
    obtain ⟨ys, e2, r1, r2⟩ := comp_inv' P ds (k + 1) (zs ++ optL r) e1 q2 fun i zs d e hi hp => by
      have := t (i + 1) zs d e (by simpa using hi) (by rw [show k + (i + 1) = k + 1 + i by omega]; exact hp)
      rw [show k + 1 + i + 1 = k + (i + 1) + 1 by omega]; exact this
    refine ⟨optC r ys, e2, ?_, ?_⟩
    · rw [cl_cons, q1, ob_ok, ap_bnd, r1, ob_ok]; rfl
    · have e3 : zs ++ optC r ys = zs ++ optL r ++ ys := by cases r <;> simp [optC, optL]
      rw [e3, show k + (d :: ds).length = k + 1 + ds.length by simp only [List.length_cons]; omega]; exact r2
theorem comp_inv {ds : List D} {e : En} {X : Out (List D)} (hX : compL vs f c m ds e = X) (P : Nat → List D → En → Prop) (h0 : P 0 [] e)
    (hs : ∀ (i : Nat) (zs : List D) (d : D) (e : En), ds[i]? = some d → P i zs e → WpM (turnM vs f c m d e) fun r e' => P (i + 1) (zs ++ optL r) e') : ∃ ys e', X = .ok ys e' ∧ P ds.length ys e' := by
  obtain ⟨ys, e', a, b⟩ := comp_inv' P ds 0 [] e h0 fun i zs d e hi hp => by
    rw [Nat.zero_add] at hp ⊢; exact hs i zs d e hi hp
  exact ⟨ys, e', by rw [← hX]; exact a, by rw [Nat.zero_add, List.nil_append] at b; exact b⟩
/-- one that leaves the frame: each turn tells something or nothing -/
theorem comp_fm' {ds : List D} {e : En} {X : Out (List D)} (hX : compL vs f c m ds e = X) (g : D → Option D) (hs : ∀ d ∈ ds, turnM vs f c m d e = .ok (g d) e) : X = .ok (ds.filterMap g) e := by
  subst hX
  induction ds with
  | nil => rfl
  | cons d ds ih =>
    rw [cl_cons, hs d (List.mem_cons_self ..), ob_ok, ap_bnd, ih fun d h => hs d (List.mem_cons_of_mem _ h), ob_ok]
    cases hg : g d with
    | none => rw [List.filterMap_cons_none hg]; rfl
    | some y => rw [List.filterMap_cons_some hg]; rfl
theorem wh_stuckless {t : M Bool} {b : M Fl} {n : Nat} : whileM (n + 1) t b = fun e => whileM (n + 1) t b e := (rfl)
end
theorem range_at {n i : Nat} {d : D} (h : (rangeD 0 n)[i]? = some d) : d = .int (i : Int) ∧ i < n := by
  unfold rangeD at h
  rw [List.getElem?_map] at h
  cases hr : (List.range n)[i]? with
  | none => rw [hr] at h; cases h
  | some k =>
    rw [hr] at h
    obtain ⟨h1, h2⟩ := List.getElem?_eq_some_iff.mp hr
    rw [List.length_range] at h1
    rw [List.getElem_range] at h2
    subst h2
    simp only [Option.map_some, Option.some.injEq] at h
    exact ⟨by rw [← h, Int.zero_add], h1⟩
end PV

namespace PV
open PySem PySem.Spec L2 PyProof.Rows
/-! ### 24. xs.remove(text), xs.pop(i), module tuples of texts -/
def eqkS (k : Str) (v : Value) : Bool := match v with
  | .str n _ => n.cps.toList == k.cps.toList
  | _ => false
theorem eqkS_gives {k : Str} {t : Tok} : ∀ {us : List Value} {ns : List Str}, Vals (ns.map V.str) us → ∀ y ∈ us, MeetsSeq.EqGives y (.str k t) (eqkS k y)
  | _, [], .nil => fun y hy => by cases hy
  | _, n :: ns, .cons h r => fun y hy => by
    obtain ⟨t', rfl⟩ := h
    rcases List.mem_cons.mp hy with e | e
    · rw [e]; exact SeqRoads2.EqGives.str n k t' t
    · exact eqkS_gives r y e
theorem vals_at {k : Str} : ∀ {us : List Value} {ns : List Str} {j : Nat}, Vals (ns.map V.str) us → ns[j]? = some k → ∃ t, us[j]? = some (.str k t)
  | _, [], _, .nil, h => by simp at h
  | _, n :: ns, 0, .cons h r, e => by
    obtain ⟨t', rfl⟩ := h
    simp at e; subst e; exact ⟨t', rfl⟩
  | _, n :: ns, j + 1, .cons h r, e => by
    simp at e; simpa using vals_at r e
theorem erase_mapS : ∀ (l : List Str) (j : Nat), (l.map V.str).eraseIdx j = (l.eraseIdx j).map V.str
  | [], j => by simp
  | a :: r, 0 => by simp
  | a :: r, j + 1 => by simp [erase_mapS r j]
def rRemS : V → List V → Hp → VK → Prop := fun x xs H Q => ∃ (l : Addr) (ns : List Str) (k : Str) (j : Nat), x = .ref l ∧ xs = [.str k] ∧ H l = some (.lst (ns.map V.str)) ∧ ns[j]? = some k ∧ (∀ m : Nat, m < j → ns[m]? ≠ some k) ∧ Q .non (upd H l (.lst ((ns.eraseIdx j).map V.str)))
theorem mt_removeS {X : Cx} : MtR X "list.remove" rRemS := by
  intro pins s σ H x xs v us Q I rx rxs h
  obtain ⟨l, ns, k, j, rfl, rfl, hH, hj, hno, q⟩ := h
  cases rx
  obtain ⟨u, rfl, ru⟩ := rxs.one
  obtain ⟨t, rfl⟩ := ru
  obtain ⟨z, its, n, r, hl, e⟩ := I.lstM hH
  rw [List.length_map] at hl z
  have hjn : j < ns.length := (List.getElem?_eq_some_iff.mp hj).1
  have hjl : j < its.toArray.size := by rw [List.size_toArray]; omega
  refine call_meets PySem.F.slot_list_remove ⟨_, e, rfl⟩ PySem.F.entry_list_remove (PySem.F.args_list_remove_2 _ _)
    (MeetsSeq.list_remove l its.toArray n (.str k t) (eqkS k) (fun y hy => eqkS_gives r y (by simpa using hy)) j hjl ?_ ?_ (by rw [List.size_toArray]; omega)) ⟨e, ?_⟩
  · obtain ⟨tj, hjt⟩ := vals_at r hj
    obtain ⟨h1, h2⟩ := List.getElem?_eq_some_iff.mp hjt
    have e1 : its.toArray[j] = .str k tj := by simpa using h2
    rw [e1]
    exact beq_self_eq_true k.cps.toList
  · intro m hm hmj
    have hmn : m < ns.length := by omega
    obtain ⟨tm, hmt⟩ := vals_at r (List.getElem?_eq_getElem hmn)
    obtain ⟨h1, h2⟩ := List.getElem?_eq_some_iff.mp hmt
    have e1 : its.toArray[m] = .str ns[m] tm := by simpa using h2
    rw [e1]
    refine beq_eq_false_iff_ne.mpr fun e2 => hno m hmj ?_
    rw [List.getElem?_eq_getElem hmn]
    congr 1
    cases hh : ns[m] with
    | mk a => rw [hh] at e2; cases k with | mk b => simpa using e2
  · have rr := r.eraseIdx j
    rw [erase_mapS] at rr
    refine ⟨.non, _, I.lset (its' := its.eraseIdx j) (t' := s.toks) hH e ?_ rr ?_, rfl, q⟩
    · show its.toArray.eraseIdxIfInBounds j = (its.eraseIdx j).toArray
      rw [List.eraseIdxIfInBounds_toArray]
    · have z2 : (ns.eraseIdx j).length ≤ ns.length := List.length_eraseIdx_le ..
      rw [List.length_map]
      omega
theorem strsD_some : ∀ {ds : List D} {zs : List Str}, strsD ds = some zs → ds = zs.map D.str
  | [], zs, h => by unfold strsD at h; cases h; rfl
  | d :: ds, zs, h => by
    cases d <;> unfold strsD at h <;> try cases h
    rename_i s
    cases hh : strsD ds with
    | none => rw [hh] at h; cases h
    | some ys => rw [hh] at h; cases h; rw [strsD_some hh]; rfl
def remF : List D → Ob → Option (D × Ob)
  | [.str z], .lst ds => match strsD ds with
    | some zs => if z ∈ zs then some (.non, .lst ((zs.eraseIdx (zs.idxOf z)).map D.str)) else none
    | none => none
  | _, _ => none
theorem rem_ok : MutOk remF rRemS := by
  intro K F H a o u ds vs r Q s hF ho hv hf q
  unfold remF at hf
  split at hf
  · rename_i z ds
    split at hf
    · rename_i zs hz
      split at hf
      · rename_i hm
        cases hf
        obtain ⟨xs, e1, e2⟩ := ho
        rw [strsD_some hz] at e2
        rw [reps_strs e2] at e1
        rw [Reps] at hv; obtain ⟨v, w, rfl, h1, h2⟩ := hv
        rw [Reps] at h2; subst h2
        rw [Rep] at h1; subst h1
        have hl : zs.idxOf z < zs.length := List.idxOf_lt_length_iff.mpr hm
        refine ⟨a, zs, z, zs.idxOf z, rfl, rfl, e1, ?_, ?_, q _ _ ⟨_, rfl, strs_reps _⟩ (by rw [Rep])⟩
        · rw [List.getElem?_eq_getElem hl, List.getElem_idxOf]
        · intro m hm2 hc
          have hmz : m < zs.length := by omega
          rw [List.getElem?_eq_getElem hmz] at hc
          cases hc
          have hh : m < zs.findIdx (· == zs[m]) := hm2
          have := List.not_of_lt_findIdx hh
          simp at this
      · cases hf
    · cases hf
  · cases hf
def popAtF : List D → Ob → Option (D × Ob)
  | [.int i], .lst ds => if 0 ≤ i ∧ i < 2 ^ 62 then (match ds[i.toNat]? with
      | some d => some (d, .lst (ds.eraseIdx i.toNat))
      | none => none) else none
  | _, _ => none
theorem popAt_ok : MutOk popAtF rPopAt := by
  intro K F H a o u ds vs r Q s hF ho hv hf q
  unfold popAtF at hf
  split at hf
  · rename_i i ds
    split at hf
    · rename_i hc
      split at hf
      · rename_i d hd
        cases hf
        obtain ⟨xs, e1, e2⟩ := ho
        rw [Reps] at hv; obtain ⟨v, w, rfl, h1, h2⟩ := hv
        rw [Reps] at h2; subst h2
        rw [Rep] at h1; subst h1
        obtain ⟨y, y1, y2⟩ := e2.get hd
        have hi := (List.getElem?_eq_some_iff.mp y1).1
        refine ⟨a, xs, i, i.toNat, y, rfl, rfl, e1, by omega, by omega, ?_, y1, q _ _ ⟨_, rfl, e2.eraseIdx _⟩ y2⟩
        unfold seqIndex?
        rw [if_neg (show ¬ i < 0 by omega)]
        simp only
        refine if_pos ?_
        simp only [Bool.and_eq_true, decide_eq_true_eq]
        exact ⟨hc.1, by omega⟩
      · cases hf
    · cases hf
  · cases hf
section
variable {G : Prg} {call : Nat → FSem} {C : Cxt} {i : Nat} {e : Expr} {es : List Expr} {x : Str} {ns : List (M Rv)} {xpos apos cpos : Pos}
theorem SE.remove (hN : C.N[i]? = some x) (hvs : C.vs[i]? = some true) (ha : SL G call C (e :: es) ns)
    (hbase : ∀ env, attributeBase (.Name x xpos) "remove" env (eval (.Name x xpos) env) = eval (.Name x xpos) env := by intro _; rfl)
    (hfew : ∀ env, ((backTo cpos (starEach (e :: es) env)).all (fun x => !x.1) && (backToKw cpos (keywordEach [] env)).all (fun x => x.1.isSome)
      && decide ((e :: es).length + ([] : List Keyword).length + (if ([] : List Keyword).isEmpty then 0 else 1) < 30)) = true := by intro _; rfl)
    (hline : (apos.endLine == cpos.line) = true := by rfl) (hs : ∀ env, starEach (e :: es) env = (false, eval e env) :: starEach es env := by intro _; rfl) (hplain : ∀ env, (backTo cpos (starEach es env)).any (·.1) = false := by intro _; rfl) :
    SE G call C (.Call (.Attribute (.Name x xpos) "remove" apos) (e :: es) [] cpos) (cMut i "list" remF ns) :=
  SE.mut PySem.F.plainAttrs_list PySem.F.slot_list_remove PySem.F.type_list_remove (fun X ok => mt_removeS) (fun X => rem_ok) hN hvs ha hbase hfew hline hs hplain
theorem SE.popAt (hN : C.N[i]? = some x) (hvs : C.vs[i]? = some true) (ha : SL G call C (e :: es) ns)
    (hbase : ∀ env, attributeBase (.Name x xpos) "pop" env (eval (.Name x xpos) env) = eval (.Name x xpos) env := by intro _; rfl)
    (hfew : ∀ env, ((backTo cpos (starEach (e :: es) env)).all (fun x => !x.1) && (backToKw cpos (keywordEach [] env)).all (fun x => x.1.isSome)
      && decide ((e :: es).length + ([] : List Keyword).length + (if ([] : List Keyword).isEmpty then 0 else 1) < 30)) = true := by intro _; rfl)
    (hline : (apos.endLine == cpos.line) = true := by rfl) (hs : ∀ env, starEach (e :: es) env = (false, eval e env) :: starEach es env := by intro _; rfl) (hplain : ∀ env, (backTo cpos (starEach es env)).any (·.1) = false := by intro _; rfl) :
    SE G call C (.Call (.Attribute (.Name x xpos) "pop" apos) (e :: es) [] cpos) (cMut i "list" popAtF ns) :=
  SE.mut PySem.F.plainAttrs_list PySem.F.slot_list_pop PySem.F.type_list_pop (fun X ok => mt_popAt) (fun X => popAt_ok) hN hvs ha hbase hfew hline hs hplain
end
/-- a module's tuple of texts -/
def strsV : List Value → Option (List Str)
  | [] => some []
  | .str s _ :: vs => (strsV vs).map fun l => s :: l
  | _ => none
theorem strsV_vals : ∀ {vs : List Value} {zs : List Str}, strsV vs = some zs → Vals (zs.map V.str) vs ∧ vs.length = zs.length
  | [], zs, h => by unfold strsV at h; cases h; exact ⟨.nil, rfl⟩
  | v :: vs, zs, h => by
    cases v <;> unfold strsV at h <;> try cases h
    rename_i s t
    cases hh : strsV vs with
    | none => rw [hh] at h; cases h
    | some ys =>
      rw [hh] at h; cases h
      obtain ⟨a, b⟩ := strsV_vals hh
      exact ⟨.cons ⟨t, rfl⟩ a, by simp [b]⟩
theorem mod_strs {K : PySem.W.Frag} {a : Addr} {its : Array Value} {n : Nat} {sl : Array (Option Value)} {zs : List Str} (h : K.lookup a = some ⟨.type "tuple", none, .seq its n, sl⟩) (hz : strsV its.toList = some zs) (hl : zs.length ≤ 1000) (F : Hp) :
    Rep K F (.tup (zs.map D.str)) (.ref a) := by
  obtain ⟨q1, q2⟩ := strsV_vals hz
  rw [Rep]
  refine ⟨a, zs.map V.str, rfl, .inr ⟨_, its, n, h, rfl, rfl, rfl, ?_, q1⟩, strs_reps zs⟩
  have : its.size = its.toList.length := by simp
  rw [this, q2]
  have := sizeLine_eq
  omega
theorem inB_T4 {z a0 a1 a2 a3 : Str} : inB (.str z) (.tup [.str a0, .str a1, .str a2, .str a3]) = some (decide (z = a0) || (decide (z = a1) || (decide (z = a2) || (decide (z = a3))))) := by
  have := @inB_strsT z [a0, a1, a2, a3]
  simp only [List.map_cons, List.map_nil] at this
  rw [this]
  simp only [List.mem_cons, List.not_mem_nil, or_false, Bool.decide_or]
theorem inB_T5 {z a0 a1 a2 a3 a4 : Str} : inB (.str z) (.tup [.str a0, .str a1, .str a2, .str a3, .str a4]) = some (decide (z = a0) || (decide (z = a1) || (decide (z = a2) || (decide (z = a3) || (decide (z = a4)))))) := by
  have := @inB_strsT z [a0, a1, a2, a3, a4]
  simp only [List.map_cons, List.map_nil] at this
  rw [this]
  simp only [List.mem_cons, List.not_mem_nil, or_false, Bool.decide_or]
theorem inB_T6 {z a0 a1 a2 a3 a4 a5 : Str} : inB (.str z) (.tup [.str a0, .str a1, .str a2, .str a3, .str a4, .str a5]) = some (decide (z = a0) || (decide (z = a1) || (decide (z = a2) || (decide (z = a3) || (decide (z = a4) || (decide (z = a5))))))) := by
  have := @inB_strsT z [a0, a1, a2, a3, a4, a5]
  simp only [List.map_cons, List.map_nil] at this
  rw [this]
  simp only [List.mem_cons, List.not_mem_nil, or_false, Bool.decide_or]
theorem inB_T7 {z a0 a1 a2 a3 a4 a5 a6 : Str} : inB (.str z) (.tup [.str a0, .str a1, .str a2, .str a3, .str a4, .str a5, .str a6]) = some (decide (z = a0) || (decide (z = a1) || (decide (z = a2) || (decide (z = a3) || (decide (z = a4) || (decide (z = a5) || (decide (z = a6)))))))) := by
  have := @inB_strsT z [a0, a1, a2, a3, a4, a5, a6]
  simp only [List.map_cons, List.map_nil] at this
  rw [this]
  simp only [List.mem_cons, List.not_mem_nil, or_false, Bool.decide_or]
theorem inB_T8 {z a0 a1 a2 a3 a4 a5 a6 a7 : Str} : inB (.str z) (.tup [.str a0, .str a1, .str a2, .str a3, .str a4, .str a5, .str a6, .str a7]) = some (decide (z = a0) || (decide (z = a1) || (decide (z = a2) || (decide (z = a3) || (decide (z = a4) || (decide (z = a5) || (decide (z = a6) || (decide (z = a7))))))))) := by
  have := @inB_strsT z [a0, a1, a2, a3, a4, a5, a6, a7]
  simp only [List.map_cons, List.map_nil] at this
  rw [this]
  simp only [List.mem_cons, List.not_mem_nil, or_false, Bool.decide_or]
theorem inB_T10 {z a0 a1 a2 a3 a4 a5 a6 a7 a8 a9 : Str} : inB (.str z) (.tup [.str a0, .str a1, .str a2, .str a3, .str a4, .str a5, .str a6, .str a7, .str a8, .str a9]) = some (decide (z = a0) || (decide (z = a1) || (decide (z = a2) || (decide (z = a3) || (decide (z = a4) || (decide (z = a5) || (decide (z = a6) || (decide (z = a7) || (decide (z = a8) || (decide (z = a9))))))))))) := by
  have := @inB_strsT z [a0, a1, a2, a3, a4, a5, a6, a7, a8, a9]
  simp only [List.map_cons, List.map_nil] at this
  rw [this]
  simp only [List.mem_cons, List.not_mem_nil, or_false, Bool.decide_or]
theorem inB_T12 {z a0 a1 a2 a3 a4 a5 a6 a7 a8 a9 a10 a11 : Str} : inB (.str z) (.tup [.str a0, .str a1, .str a2, .str a3, .str a4, .str a5, .str a6, .str a7, .str a8, .str a9, .str a10, .str a11]) = some (decide (z = a0) || (decide (z = a1) || (decide (z = a2) || (decide (z = a3) || (decide (z = a4) || (decide (z = a5) || (decide (z = a6) || (decide (z = a7) || (decide (z = a8) || (decide (z = a9) || (decide (z = a10) || (decide (z = a11))))))))))))) := by
  have := @inB_strsT z [a0, a1, a2, a3, a4, a5, a6, a7, a8, a9, a10, a11]
  simp only [List.map_cons, List.map_nil] at this
  rw [this]
  simp only [List.mem_cons, List.not_mem_nil, or_false, Bool.decide_or]
theorem strsD_map' : ∀ L : List Str, strsD (L.map D.str) = some L
  | [] => rfl
  | z :: L => by rw [List.map_cons, strsD, strsD_map' L]; rfl
theorem sorted_tupS {L : List Str} (h : L.length < 64) : sortedOf [.tup (L.map D.str)] = .ob (.lst ((sortS L).map D.str)) := by
  unfold sortedOf
  simp only [strsD_map']
  exact if_pos h
theorem remF_S {z : Str} {zs : List Str} (h : z ∈ zs) : remF [.str z] (.lst (zs.map D.str)) = some (.non, .lst ((zs.eraseIdx (zs.idxOf z)).map D.str)) := by
  unfold remF
  simp only [strsD_map', h, if_true]
end PV

namespace PV
open PySem PySem.Spec L2 PyProof.Rows
/-! ### 25. a while loop at the place where it stands -/
theorem wh_inv' {t : M Bool} {b : M Fl} (I : Nat → En → Prop) (N : En → Prop) (R : Rv → En → Prop)
    (hs : ∀ (m : Nat) (e : En), I m e → WpM (t e) fun k e' => (k = false ∧ N e') ∨ (k = true ∧ ∃ m', m = m' + 1 ∧ WpM (b e') fun f e2 => (f = .nx ∧ I m' e2) ∨ ∃ r, f = .rt r ∧ R r e2)) :
    ∀ (n m : Nat) (e : En), I m e → m < n → WpM (whileM n t b e) fun f e' => (f = .nx ∧ N e') ∨ ∃ r, f = .rt r ∧ R r e'
  | 0, m, e, _, h => by omega
  | n + 1, m, e, hi, h => by
    obtain ⟨k, e1, q1, q2⟩ := hs m e hi
    have ew : whileM (n + 1) t b e = (t e).bind fun k => if k = true then bnd b fun f => match f with
      | .nx => whileM n t b
      | .ct => whileM n t b
      | .bk => ret .nx
      | .rt r => ret (.rt r)
    else ret .nx := ap_bnd
    rw [ew, q1, ob_ok]
    rcases q2 with ⟨rfl, q2⟩ | ⟨rfl, m', rfl, f, e2, q3, q4⟩
    · exact ⟨_, _, rfl, .inl ⟨rfl, q2⟩⟩
    · rw [if_pos rfl, ap_bnd, q3, ob_ok]
      rcases q4 with ⟨rfl, q4⟩ | ⟨r, rfl, q4⟩
      · exact wh_inv' I N R hs n m' e2 q4 (by omega)
      · exact ⟨_, _, rfl, .inr ⟨r, rfl, q4⟩⟩
theorem wh_inv {n : Nat} {t : M Bool} {b : M Fl} {e : En} {X : Out Fl} (hX : whileM n t b e = X) (I : Nat → En → Prop) (N : En → Prop) (R : Rv → En → Prop) (m : Nat) (h0 : I m e) (hm : m < n)
    (hs : ∀ (m : Nat) (e : En), I m e → WpM (t e) fun k e' => (k = false ∧ N e') ∨ (k = true ∧ ∃ m', m = m' + 1 ∧ WpM (b e') fun f e2 => (f = .nx ∧ I m' e2) ∨ ∃ r, f = .rt r ∧ R r e2)) :
    ∃ e', (X = .ok .nx e' ∧ N e') ∨ ∃ r, X = .ok (.rt r) e' ∧ R r e' := by
  obtain ⟨f, e', a, h⟩ := wh_inv' I N R hs n m e h0 hm
  subst hX
  rcases h with ⟨rfl, h⟩ | ⟨r, rfl, h⟩
  · exact ⟨e', .inl ⟨a, h⟩⟩
  · exact ⟨e', .inr ⟨r, a, h⟩⟩
theorem WpM_bind {α β : Type} {o : Out α} {f : α → M β} {Q : β → En → Prop} (h : WpM o fun a e => WpM (f a e) Q) : WpM (o.bind f) Q := by
  obtain ⟨a, e, rfl, q⟩ := h; exact q
/-- popping the first -/
theorem dv_pop0 {d : D} {ds : List D} : popAtF [.int 0] (.lst (d :: ds)) = some (d, .lst ds) := (rfl)
theorem dv_ins {i : Int} {d : D} {ds : List D} (h : ds.length < sizeLine) (h1 : 0 ≤ i) (h2 : i < 2 ^ 63) : insF [.int i, d] (.lst ds) = some (.non, .lst (ds.take i.toNat ++ [d] ++ ds.drop i.toNat)) := by
  unfold insF; simp only [h, h1, h2, and_self, if_true]
theorem dv_ext {ds es : List D} (h : ds.length + es.length ≤ sizeLine) : extF [.lst es] (.lst ds) = some (.non, .lst (ds ++ es)) := by
  unfold extF; simp only [h, if_true]
end PV

namespace PV
open PySem PySem.Spec L2 PyProof.Rows
/-! ### 26. == and != over plain data: numbers, texts, None, truths, tuples and lists of these -/
mutual
def pyOf : D → PyData
  | .non => .none
  | .bl b => .bool b
  | .int i => .int i
  | .str s => .str s
  | .tup ds => .tuple (pysOf ds)
  | .lst ds => .list (pysOf ds)
  | .scr ds => .list (pysOf ds)
  | _ => .none
def pysOf : List D → List PyData
  | [] => []
  | d :: ds => pyOf d :: pysOf ds
end
/-- plain, so deep at most -/
def Gd : Nat → D → Prop
  | _, .non => True
  | _, .bl _ => True
  | _, .int _ => True
  | _, .str s => (PyData.str s).canLay0 = true
  | n + 1, .tup ds => ∀ d ∈ ds, Gd n d
  | n + 1, .lst ds => ∀ d ∈ ds, Gd n d
  | n + 1, .scr ds => ∀ d ∈ ds, Gd n d
  | _, _ => False
theorem Gd.up : ∀ {n : Nat} {d : D}, Gd n d → Gd (n + 1) d
  | 0, d, h => by cases d <;> first | exact h | exact h.elim
  | n + 1, .tup ds, h => fun d hd => Gd.up (h d hd)
  | n + 1, .lst ds, h => fun d hd => Gd.up (h d hd)
  | n + 1, .scr ds, h => fun d hd => Gd.up (h d hd)
  | n + 1, .non, h => h
  | n + 1, .bl _, h => h
  | n + 1, .int _, h => h
  | n + 1, .str _, h => h
theorem Gd.mono {n m : Nat} {d : D} (h : Gd n d) (k : n ≤ m) : Gd m d := by
  induction k with
  | refl => exact h
  | step _ ih => exact ih.up
theorem gd_py_list {n : Nat} (ih : ∀ d : D, Gd n d → toPy d = some (pyOf d) ∧ (pyOf d).canLay0 = true ∧ (pyOf d).depth ≤ n) : ∀ ds : List D, (∀ d ∈ ds, Gd n d) → toPys ds = some (pysOf ds) ∧ PyData.canLayAll0 (pysOf ds) = true ∧ PyData.depthAll (pysOf ds) ≤ n
  | [], _ => by rw [toPys, pysOf, PyData.canLayAll0, PyData.depthAll]; exact ⟨rfl, rfl, Nat.zero_le _⟩
  | d :: ds, h => by
    obtain ⟨a1, a2, a3⟩ := ih d (h d (List.mem_cons_self ..))
    obtain ⟨b1, b2, b3⟩ := gd_py_list ih ds fun x hx => h x (List.mem_cons_of_mem _ hx)
    refine ⟨by rw [toPys, a1, b1, pysOf], by rw [pysOf, PyData.canLayAll0, a2, b2]; rfl, ?_⟩
    rw [pysOf, PyData.depthAll]
    omega
theorem gd_py : ∀ (n : Nat) (d : D), Gd n d → toPy d = some (pyOf d) ∧ (pyOf d).canLay0 = true ∧ (pyOf d).depth ≤ n := by
  intro n
  induction n with
  | zero =>
    intro d h
    cases d <;> first | exact h.elim | (rw [toPy, pyOf]; exact ⟨rfl, by first | exact h | (rw [PyData.canLay0]), by rw [PyData.depth]; exact Nat.le_refl _⟩)
  | succ n ih =>
    intro d h
    cases d with
    | tup ds =>
      obtain ⟨b1, b2, b3⟩ := gd_py_list ih ds h
      exact ⟨by rw [toPy, b1, pyOf]; rfl, by rw [pyOf, PyData.canLay0]; exact b2, by rw [pyOf, PyData.depth]; omega⟩
    | lst ds =>
      obtain ⟨b1, b2, b3⟩ := gd_py_list ih ds h
      exact ⟨by rw [toPy, b1, pyOf]; rfl, by rw [pyOf, PyData.canLay0]; exact b2, by rw [pyOf, PyData.depth]; omega⟩
    | scr ds =>
      obtain ⟨b1, b2, b3⟩ := gd_py_list ih ds h
      exact ⟨by rw [toPy, b1, pyOf]; rfl, by rw [pyOf, PyData.canLay0]; exact b2, by rw [pyOf, PyData.depth]; omega⟩
    | non => rw [toPy, pyOf]; exact ⟨rfl, by rw [PyData.canLay0], by rw [PyData.depth]; omega⟩
    | bl b => rw [toPy, pyOf]; exact ⟨rfl, by rw [PyData.canLay0], by rw [PyData.depth]; omega⟩
    | int b => rw [toPy, pyOf]; exact ⟨rfl, by rw [PyData.canLay0], by rw [PyData.depth]; omega⟩
    | str b => rw [toPy, pyOf]; exact ⟨rfl, h, by rw [PyData.depth]; omega⟩
    | _ => exact h.elim
def eqB (a b : D) : Bool := PyData.eqv (pyOf a) (pyOf b)
theorem eqvD_gd {a b : D} (ha : Gd 60 a) (hb : Gd 60 b) : eqvD a b = some (eqB a b) := by
  obtain ⟨a1, a2, a3⟩ := gd_py 60 a ha
  obtain ⟨b1, b2, b3⟩ := gd_py 60 b hb
  have sa : SeqAt.shaped (pyOf a) = true := by unfold SeqAt.shaped; rw [a2]; simp only [Bool.true_and, decide_eq_true_eq]; omega
  have sb : SeqAt.shaped (pyOf b) = true := by unfold SeqAt.shaped; rw [b2]; simp only [Bool.true_and, decide_eq_true_eq]; omega
  unfold eqvD
  cases hs : scalD a b with
  | some k =>
    unfold scalD at hs
    split at hs
    all_goals (cases hs <;> (unfold eqB; simp only [pyOf, PyData.eqv]; try rfl))
  | none =>
    simp only [a1, b1, sa, sb, Bool.and_self, if_true]
    rfl
theorem eq_gd {a b : D} (ha : Gd 60 a) (hb : Gd 60 b) : eqD a b = .d (.bl (eqB a b)) := by
  unfold eqD
  by_cases z : refS a b = true
  · rw [if_pos z]
    unfold refS at z
    split at z <;> first | (unfold eqB; simp only [pyOf, PyData.eqv]) | cases z
  · rw [if_neg z, eqvD_gd ha hb]
theorem ne_gd {a b : D} (ha : Gd 60 a) (hb : Gd 60 b) : neD a b = .d (.bl (!eqB a b)) := by unfold neD; rw [eqvD_gd ha hb]
mutual
theorem eqv_refl : ∀ d : PyData, d.canLay0 = true → PyData.eqv d d = true
  | .none, _ => by rw [PyData.eqv]
  | .bool b, _ => by rw [PyData.eqv]; exact beq_self_eq_true b
  | .int i, _ => by rw [PyData.eqv]; exact beq_self_eq_true i
  | .str s, _ => by rw [PyData.eqv]; exact beq_self_eq_true s
  | .list ds, h => by rw [PyData.eqv]; exact eqvAll_refl ds (by rw [PyData.canLay0] at h; exact h)
  | .tuple ds, h => by rw [PyData.eqv]; exact eqvAll_refl ds (by rw [PyData.canLay0] at h; exact h)
  | .dict _, h => by rw [PyData.canLay0] at h; cases h
theorem eqvAll_refl : ∀ ds : List PyData, PyData.canLayAll0 ds = true → PyData.eqvAll ds ds = true
  | [], _ => by rw [PyData.eqvAll]
  | d :: ds, h => by
    rw [PyData.canLayAll0, Bool.and_eq_true] at h
    rw [PyData.eqvAll, eqv_refl d h.1, eqvAll_refl ds h.2]; rfl
end
theorem eqB_refl {a : D} (ha : Gd 60 a) : eqB a a = true := eqv_refl _ (gd_py 60 a ha).2.1
theorem eqB_nil {ds : List D} : eqB (.lst ds) (.lst []) = ds.isEmpty := by
  unfold eqB
  rw [pyOf, pyOf, PyData.eqv, pysOf]
  cases ds with
  | nil => rw [pysOf, PyData.eqvAll]; rfl
  | cons d ds => rw [pysOf, PyData.eqvAll]; rfl
theorem eq_nilG {ds : List D} (h : ∀ d ∈ ds, Gd 59 d) : eqD (.lst ds) (.lst []) = .d (.bl ds.isEmpty) := by
  rw [eq_gd (a := .lst ds) (b := .lst []) h (fun d hd => by cases hd), eqB_nil]
theorem ne_nilG {ds : List D} (h : ∀ d ∈ ds, Gd 59 d) : neD (.lst ds) (.lst []) = .d (.bl (!ds.isEmpty)) := by
  rw [ne_gd (a := .lst ds) (b := .lst []) h (fun d hd => by cases hd), eqB_nil]
end PV

namespace PV
open PySem PySem.Spec L2 PyProof.Rows
/-! ### 27. s.split(sep), the sep written out; tuple * int; == of anything with a text -/
def splitF (sep : Str) : D → SR
  | .str a => if (!(sep.length == 0) && decide (a.length + 2 ≤ sizeLine)) = true then .ob (.lst ((Txt.split a sep).map D.str)) else .no
  | _ => .no
section
variable {G : Prg} {call : Nat → FSem} {C : Cxt}
theorem SE.split {o : Expr} {m : M Rv} {sep : Str} {j : Nat} {kpos apos cpos : Pos} (ho : SE G call C o m)
    (hM : ∀ X : Cx, starEach [.Constant (.str sep) j kpos] X.env = [(false, eval (.Constant (.str sep) j kpos) X.env)] ∧ attributeBase o "split" X.env (eval o X.env) = eval o X.env ∧ (apos.endLine == cpos.line) = true := by intro X; exact ⟨rfl, rfl, rfl⟩) :
    SE G call C (.Call (.Attribute o "split" apos) [.Constant (.str sep) j kpos] [] cpos) (c1 (splitF sep) m) := fun X ok =>
  pe_mono (pe_split (ho X ok) pe_str (hM X).1 (hM X).2.1 (hM X).2.2) fun σ H Q h =>
    rd1 (r := fun x H Q => (∃ a, x = .str a) ∧ (∃ a b, x = .str a ∧ [V.str sep] = [.str b] ∧ (b.length == 0) = false ∧ a.length + 2 ≤ sizeLine ∧ rNewStrs (Txt.split a b) H Q)) (fun F H d x Q s hx h => by
      unfold splitF at h
      split at h
      · rename_i a
        obtain rfl := hx.str
        split at h
        · rename_i z
          simp only [Bool.and_eq_true, decide_eq_true_eq, Bool.not_eq_true'] at z
          exact ⟨⟨_, rfl⟩, _, _, rfl, rfl, z.1, z.2, fun p hp => h.lst hp (strs_reps _)⟩
        · exact h.elim
      · exact h.elim) h
end
theorem dv_split {sep a : Str} (h1 : sep.length ≠ 0) (h2 : a.length + 2 ≤ 16777216) : splitF sep (.str a) = .ob (.lst ((Txt.split a sep).map D.str)) := by
  have e : (!(sep.length == 0) && decide (a.length + 2 ≤ sizeLine)) = true := by
    rw [sizeLine_eq]; simp only [Bool.and_eq_true, decide_eq_true_eq, Bool.not_eq_true', beq_eq_false_iff_ne]; exact ⟨h1, h2⟩
  exact if_pos e
theorem dv_mulT {ds : List D} {k : Nat} (h1 : k ≤ 1000) (h2 : ds.length ≤ 1000) : mulD (.tup ds) (.int (k : Int)) = .nt (List.replicate k ds).flatten := by
  have hc : (decide (0 ≤ (k : Int)) && decide ((k : Int) ≤ 1000) && decide (ds.length ≤ 1000)) = true := by
    simp only [Bool.and_eq_true, decide_eq_true_eq]; omega
  show (if (decide (0 ≤ (k : Int)) && decide ((k : Int) ≤ 1000) && decide (ds.length ≤ 1000)) = true then SR.nt (List.replicate (k : Int).toNat ds).flatten else .no) = _
  rw [if_pos hc, Int.toNat_natCast]
/-- d is the text z -/
def isT (z : Str) : D → Bool
  | .str w => decide (w = z)
  | _ => false
/-- whatever may stand at a part's place -/
def Any0 : D → Prop
  | .pr _ => False
  | .dit _ => False
  | .ty _ => False
  | _ => True
theorem eq_text {d : D} (h : Any0 d) (z : Str) : eqD d (.str z) = .d (.bl (isT z d)) := by
  cases d <;> first | rfl | exact h.elim
end PV

namespace K01
open PySem PySem.Spec L2 PyProof.Rows PV
def top (i : Nat) : Stmt := PySem.Challenge.pw_leastrecord_k01_names_and_sums.main.body.getD i (.Pass ⟨0, 0, 0, 0⟩)
def Gp : Prg := ⟨["is_name", "is_number_to", "is_value", "parts_of_sum", "is_sum", "_law_draw", "_law_pick", "_law_names", "_law_sum_in", "_law_sum", "_law_odd", "_law_bent", "_law_whole", "_law_is_name", "_law_sums_in", "_law_is_sum", "_law_bounds", "law"], [("LETTERS", .str "abcdefghijklmnopqrstuvwxyz"), ("MOST_LETTERS", .int 8), ("MOST_VALUE", .int 999), ("LANGUAGE", .tup [.str "let", .str "leap", .str "get", .str "put", .str "take", .str "free", .str "send", .str "fetch", .str "say", .str "clock", .str "lot", .str "hear", .str "add", .str "sub", .str "mul", .str "less", .str "same", .str "not", .str "box", .str "lock", .str "lane", .str "door", .str "hand"]), ("TWO_PARTS", .tup [.str "add", .str "sub", .str "mul", .str "less", .str "same"]), ("MOST_SUMS", .int 12), ("MOST_DEEP", .int 5)], ["str", "isinstance", "len", "all", "int", "bool", "tuple", "range", "list", "sum"]⟩
abbrev s_is_name : Stmt := top 5
def c_is_name : Cxt := ⟨["thing", "sign"], defScope s_is_name, [true, false], [true, false], ["str", "isinstance", "len", "MOST_LETTERS", "LANGUAGE", "all"]⟩
def m_is_name (call : Nat → FSem) : M Fl :=
  sSeq (cIf (tOrM (tNotM (cT (cN isiD [cArg .bw (cVar 0), cArg .bw (cK (.ty "str"))]))) (tOrM (tNotM (cB (cChain leD leD (cK (.int 1)) (cN lenD [cArg .bw (cVar 0)]) (cK (.int 8))))) (cB (c2 inD (cVar 0) (cK (.tup [.str "let", .str "leap", .str "get", .str "put", .str "take", .str "free", .str "send", .str "fetch", .str "say", .str "clock", .str "lot", .str "hear", .str "add", .str "sub", .str "mul", .str "less", .str "same", .str "not", .str "box", .str "lock", .str "lane", .str "door", .str "hand"])))))) (sRet (cK (.bl false))) (sNx)) <|
  sRet (cN allD [cArg .bw (cComp [1] (cSeq (cVar 0)) (tgN 1) tYesM (c2 inD (cVar 1) (cK (.str "abcdefghijklmnopqrstuvwxyz"))))])
theorem b_is_name (call : Nat → FSem) : SSs Gp call c_is_name (defBody s_is_name) (m_is_name call) :=
  SSs.cons (SS.ite (ST.w (SW.or (ST.not (ST.truth (SE.isi (j := 1) (i := 1) rfl rfl (SA.cons .bw (SE.var (i := 0) rfl rfl) (SA.cons .bw (SE.ty (j := 0) (i := 0) rfl rfl bt_str) SA.nil))))) (SW.or (ST.not (ST.leLe SE.int (SE.len (j := 2) (i := 2) rfl rfl (SA.cons .bw (SE.var (i := 0) rfl rfl) SA.nil)) (SE.glob (j := 3) (i := 1) rfl rfl))) (SW.or1 (ST.mem (SE.var (i := 0) rfl rfl) (SE.glob (j := 4) (i := 3) rfl rfl)))))) (SSs.one (SS.ret SE.bl)) (SSs.nil)) <|
  SSs.one (SS.ret (SE.all (j := 5) (i := 3) rfl rfl (SA.cons .bw (SE.lc [("sign", 1)] [false, true] [false, true] ["LETTERS"] (SI.seq (SE.var (i := 0) rfl rfl)) (SG.name (i := 1) rfl rfl) (SE.mem (SE.var (i := 1) rfl rfl) (SE.glob (j := 0) (i := 0) rfl rfl))) SA.nil)))
theorem sc_is_name : FnScope c_is_name.N ["thing"] (defScope s_is_name) := ⟨rfl, rfl, rfl, by decide +kernel, rfl, by decide +kernel, by decide +kernel⟩
abbrev s_is_number_to : Stmt := top 6
def c_is_number_to : Cxt := ⟨["thing", "least", "most"], defScope s_is_number_to, [true, true, true], [true, true, true], ["int", "isinstance", "bool"]⟩
def m_is_number_to (call : Nat → FSem) : M Fl :=
  sRet (cAndV (cN isiD [cArg .bw (cVar 0), cArg .bw (cK (.ty "int"))]) (cAndV (cNotV (cN isiD [cArg .bw (cVar 0), cArg .bw (cK (.ty "bool"))])) (cChain leD leD (cVar 1) (cVar 0) (cVar 2))))
theorem b_is_number_to (call : Nat → FSem) : SSs Gp call c_is_number_to (defBody s_is_number_to) (m_is_number_to call) :=
  SSs.one (SS.ret (SE.and (SE.isi (j := 1) (i := 1) rfl rfl (SA.cons .bw (SE.var (i := 0) rfl rfl) (SA.cons .bw (SE.ty (j := 0) (i := 4) rfl rfl bt_int) SA.nil))) (SE.and (SE.notT (SE.isi (j := 1) (i := 1) rfl rfl (SA.cons .bw (SE.var (i := 0) rfl rfl) (SA.cons .bw (SE.ty (j := 2) (i := 5) rfl rfl bt_bool) SA.nil)))) (SE.one (SE.leLe (SE.var (i := 1) rfl rfl) (SE.var (i := 0) rfl rfl) (SE.var (i := 2) rfl rfl))))))
theorem sc_is_number_to : FnScope c_is_number_to.N ["thing", "least", "most"] (defScope s_is_number_to) := ⟨rfl, rfl, rfl, by decide +kernel, rfl, by decide +kernel, by decide +kernel⟩
abbrev s_is_value : Stmt := top 7
def c_is_value : Cxt := ⟨["thing"], defScope s_is_value, [true], [true], ["MOST_VALUE", "is_number_to"]⟩
def m_is_value (call : Nat → FSem) : M Fl :=
  sRet (cCall (call 1) [cArg .val (cVar 0), cArg .val (cK (.int 0)), cArg .val (cK (.int 999))])
theorem b_is_value (call : Nat → FSem) : SSs Gp call c_is_value (defBody s_is_value) (m_is_value call) :=
  SSs.one (SS.ret (SE.fn (j := 1) (i := 1) rfl rfl (SA.cons .val (SE.var (i := 0) rfl rfl) (SA.cons .val SE.int (SA.cons .val (SE.glob (j := 0) (i := 2) rfl rfl) SA.nil)))))
theorem sc_is_value : FnScope c_is_value.N ["thing"] (defScope s_is_value) := ⟨rfl, rfl, rfl, by decide +kernel, rfl, by decide +kernel, by decide +kernel⟩
abbrev s_parts_of_sum : Stmt := top 12
def c_parts_of_sum : Cxt := ⟨["thing"], defScope s_parts_of_sum, [true], [true], ["tuple", "isinstance", "len", "str", "is_value", "is_name", "TWO_PARTS"]⟩
def m_parts_of_sum (call : Nat → FSem) : M Fl :=
  sSeq (cIf (tOrM (tNotM (cT (cN isiD [cArg .bw (cVar 0), cArg .bw (cK (.ty "tuple"))]))) (tOrM (cB (c2 ltD (cN lenD [cArg .bw (cVar 0)]) (cK (.int 2)))) (tNotM (cT (cN isiD [cArg .bw (c2 ixD (cVar 0) (cK (.int 0))), cArg .bw (cK (.ty "str"))]))))) (sRet (cK (.non))) (sNx)) <|
  sSeq (cIf (cB (c2 eqD (c2 ixD (cVar 0) (cK (.int 0))) (cK (.str "num")))) (sRet (cIf (tAndM (cB (c2 eqD (cN lenD [cArg .bw (cVar 0)]) (cK (.int 2)))) (cT (cCall (call 2) [cArg .val (c2 ixD (cVar 0) (cK (.int 1)))]))) (cTup []) (cK (.non)))) (sNx)) <|
  sSeq (cIf (cB (c2 eqD (c2 ixD (cVar 0) (cK (.int 0))) (cK (.str "of")))) (sRet (cIf (tAndM (cB (c2 eqD (cN lenD [cArg .bw (cVar 0)]) (cK (.int 2)))) (cT (cCall (call 0) [cArg .val (c2 ixD (cVar 0) (cK (.int 1)))]))) (cTup []) (cK (.non)))) (sNx)) <|
  sSeq (cIf (cB (c2 eqD (c2 ixD (cVar 0) (cK (.int 0))) (cK (.str "not")))) (sRet (cIf (cB (c2 eqD (cN lenD [cArg .bw (cVar 0)]) (cK (.int 2)))) (cSlice (cVar 0) (some (cK (.int 1))) none) (cK (.non)))) (sNx)) <|
  sSeq (cIf (cB (c2 inD (c2 ixD (cVar 0) (cK (.int 0))) (cK (.tup [.str "add", .str "sub", .str "mul", .str "less", .str "same"])))) (sRet (cIf (cB (c2 eqD (cN lenD [cArg .bw (cVar 0)]) (cK (.int 3)))) (cSlice (cVar 0) (some (cK (.int 1))) none) (cK (.non)))) (sNx)) <|
  sRet (cK (.non))
theorem b_parts_of_sum (call : Nat → FSem) : SSs Gp call c_parts_of_sum (defBody s_parts_of_sum) (m_parts_of_sum call) :=
  SSs.cons (SS.ite (ST.w (SW.or (ST.not (ST.truth (SE.isi (j := 1) (i := 1) rfl rfl (SA.cons .bw (SE.var (i := 0) rfl rfl) (SA.cons .bw (SE.ty (j := 0) (i := 6) rfl rfl bt_tuple) SA.nil))))) (SW.or (ST.lt (SE.len (j := 2) (i := 2) rfl rfl (SA.cons .bw (SE.var (i := 0) rfl rfl) SA.nil)) SE.int) (SW.or1 (ST.not (ST.truth (SE.isi (j := 1) (i := 1) rfl rfl (SA.cons .bw (SE.ix (SE.var (i := 0) rfl rfl) SE.int) (SA.cons .bw (SE.ty (j := 3) (i := 0) rfl rfl bt_str) SA.nil))))))))) (SSs.one (SS.ret SE.non)) (SSs.nil)) <|
  SSs.cons (SS.ite (ST.eq (SE.ix (SE.var (i := 0) rfl rfl) SE.int) SE.str) (SSs.one (SS.ret (SE.ite (ST.w (SW.and (ST.eq (SE.len (j := 2) (i := 2) rfl rfl (SA.cons .bw (SE.var (i := 0) rfl rfl) SA.nil)) SE.int) (SW.and1 (ST.truth (SE.fn (j := 4) (i := 2) rfl rfl (SA.cons .val (SE.ix (SE.var (i := 0) rfl rfl) SE.int) SA.nil)))))) (SE.tup SL.nil) SE.non))) (SSs.nil)) <|
  SSs.cons (SS.ite (ST.eq (SE.ix (SE.var (i := 0) rfl rfl) SE.int) SE.str) (SSs.one (SS.ret (SE.ite (ST.w (SW.and (ST.eq (SE.len (j := 2) (i := 2) rfl rfl (SA.cons .bw (SE.var (i := 0) rfl rfl) SA.nil)) SE.int) (SW.and1 (ST.truth (SE.fn (j := 5) (i := 0) rfl rfl (SA.cons .val (SE.ix (SE.var (i := 0) rfl rfl) SE.int) SA.nil)))))) (SE.tup SL.nil) SE.non))) (SSs.nil)) <|
  SSs.cons (SS.ite (ST.eq (SE.ix (SE.var (i := 0) rfl rfl) SE.int) SE.str) (SSs.one (SS.ret (SE.ite (ST.eq (SE.len (j := 2) (i := 2) rfl rfl (SA.cons .bw (SE.var (i := 0) rfl rfl) SA.nil)) SE.int) (SE.slice (SE.var (i := 0) rfl rfl) (SP'.some SE.int) SP'.none) SE.non))) (SSs.nil)) <|
  SSs.cons (SS.ite (ST.mem (SE.ix (SE.var (i := 0) rfl rfl) SE.int) (SE.glob (j := 6) (i := 4) rfl rfl)) (SSs.one (SS.ret (SE.ite (ST.eq (SE.len (j := 2) (i := 2) rfl rfl (SA.cons .bw (SE.var (i := 0) rfl rfl) SA.nil)) SE.int) (SE.slice (SE.var (i := 0) rfl rfl) (SP'.some SE.int) SP'.none) SE.non))) (SSs.nil)) <|
  SSs.one (SS.ret SE.non)
theorem sc_parts_of_sum : FnScope c_parts_of_sum.N ["thing"] (defScope s_parts_of_sum) := ⟨rfl, rfl, rfl, by decide +kernel, rfl, by decide +kernel, by decide +kernel⟩
abbrev s_is_sum : Stmt := top 13
def c_is_sum : Cxt := ⟨["thing", "waiting", "many", "one", "deep", "inner", "part"], defScope s_is_sum, [true, true, true, true, true, true, false], [true, true, true, true, true, true, false], ["len", "parts_of_sum", "MOST_SUMS", "MOST_DEEP"]⟩
def m_is_sum (call : Nat → FSem) : M Fl :=
  sSeq (sAsg 1 (cLst [cTup [cVar 0, cK (.int 1)]])) <|
  sSeq (sAsg 2 (cK (.int 0))) <|
  sSeq (whileM 1000 (cB (c2 gtD (cN lenD [cArg .bw (cVar 1)]) (cK (.int 0)))) (sSeq (sAsgT (tgT 2 (tgCons (tgN 3) (tgCons (tgN 4) tgNil))) (cMut 1 "list" popF [])) <|
    sSeq (sAsg 2 (c2 addD (cVar 2) (cK (.int 1)))) <|
    sSeq (sAsg 5 (cCall (call 3) [cArg .val (cVar 3)])) <|
    sSeq (cIf (tOrM (cB (c2 isD (cVar 5) (cK (.non)))) (tOrM (cB (c2 gtD (cVar 2) (cK (.int 12)))) (cB (c2 gtD (cVar 4) (cK (.int 5)))))) (sRet (cK (.bl false))) (sNx)) <|
    sExpr (cMut 1 "list" extF [cComp [6] (cSeq (cVar 5)) (tgN 6) tYesM (cTup [cVar 6, c2 addD (cVar 4) (cK (.int 1))])]))) <|
  sRet (cK (.bl true))
theorem b_is_sum (call : Nat → FSem) : SSs Gp call c_is_sum (defBody s_is_sum) (m_is_sum call) :=
  SSs.cons (SS.asg (i := 1) rfl rfl (SE.lst (SL.cons (SE.tup (SL.cons (SE.var (i := 0) rfl rfl) (SL.cons SE.int SL.nil))) SL.nil))) <|
  SSs.cons (SS.asg (i := 2) rfl rfl SE.int) <|
  SSs.cons (SS.while 1000 (ST.gt (SE.len (j := 0) (i := 2) rfl rfl (SA.cons .bw (SE.var (i := 1) rfl rfl) SA.nil)) SE.int) (SSs.cons (SS.asgT (SG.tup (SGs.cons (SG.name (i := 3) rfl rfl) (SGs.cons (SG.name (i := 4) rfl rfl) SGs.nil))) (SE.pop0 (i := 1) rfl rfl)) <|
    SSs.cons (SS.asg (i := 2) rfl rfl (SE.add (SE.var (i := 2) rfl rfl) SE.int)) <|
    SSs.cons (SS.asg (i := 5) rfl rfl (SE.fn (j := 1) (i := 3) rfl rfl (SA.cons .val (SE.var (i := 3) rfl rfl) SA.nil))) <|
    SSs.cons (SS.ite (ST.w (SW.or (ST.is (SE.var (i := 5) rfl rfl) SE.non) (SW.or (ST.gt (SE.var (i := 2) rfl rfl) (SE.glob (j := 2) (i := 5) rfl rfl)) (SW.or1 (ST.gt (SE.var (i := 4) rfl rfl) (SE.glob (j := 3) (i := 6) rfl rfl)))))) (SSs.one (SS.ret SE.bl)) (SSs.nil)) <|
    SSs.one (SS.expr (SE.extend (i := 1) rfl rfl (SL.cons (SE.lc [("part", 6)] [false, false, false, false, true, false, true] [false, false, false, false, false, false, true] [] (SI.seq (SE.var (i := 5) rfl rfl)) (SG.name (i := 6) rfl rfl) (SE.tup (SL.cons (SE.var (i := 6) rfl rfl) (SL.cons (SE.add (SE.var (i := 4) rfl rfl) SE.int) SL.nil)))) SL.nil))))) <|
  SSs.one (SS.ret SE.bl)
theorem sc_is_sum : FnScope c_is_sum.N ["thing"] (defScope s_is_sum) := ⟨rfl, rfl, rfl, by decide +kernel, rfl, by decide +kernel, by decide +kernel⟩
abbrev s_law_draw : Stmt := top 15
def c_law_draw : Cxt := ⟨["script", "k", "many", "cell", "left", "j", "seed"], defScope s_law_draw, [true, true, true, true, true, true, true], [true, true, true, true, true, true, true], ["len", "range"]⟩
def m_law_draw (call : Nat → FSem) : M Fl :=
  sSeq (sAsg 3 (cIf (cB (c2 gtD (cN lenD [cArg .bw (cVar 0)]) (cK (.int 0)))) (c2 ixD (cVar 0) (c2 modD (cVar 1) (cN lenD [cArg .bw (cVar 0)]))) (cK (.int 0)))) <|
  sSeq (sAsg 4 (cVar 3)) <|
  sSeq (cIf (cB (c2 geD (cVar 3) (c2 powD (cK (.int 10)) (cK (.int 18))))) (sSeq (sFor (cRange1 (c2 modD (c2 fdivD (cVar 1) (cN lenD [cArg .bw (cVar 0)])) (cK (.int 60)))) (tgN 5) (sAsg 4 (c2 fdivD (cVar 4) (cK (.int 1000003))))) <|
    cIf (cB (c2 gtD (cVar 4) (cK (.int 0)))) (sRet (c2 modD (c2 modD (c2 fdivD (cVar 4) (cK (.int 2))) (cK (.int 500009))) (cVar 2))) (sNx)) (sNx)) <|
  sSeq (sAsg 6 (c2 addD (c2 addD (c2 modD (cVar 3) (cK (.int 1000003))) (c2 mulD (c2 mulD (cK (.int 31)) (cVar 1)) (cVar 1))) (cK (.int 1)))) <|
  sRet (c2 modD (c2 modD (c2 mulD (c2 modD (c2 mulD (cVar 6) (cK (.int 48271))) (cK (.int 999983))) (cK (.int 7919))) (cK (.int 524287))) (cVar 2))
theorem b_law_draw (call : Nat → FSem) : SSs Gp call c_law_draw (defBody s_law_draw) (m_law_draw call) :=
  SSs.cons (SS.asg (i := 3) rfl rfl (SE.ite (ST.gt (SE.len (j := 0) (i := 2) rfl rfl (SA.cons .bw (SE.var (i := 0) rfl rfl) SA.nil)) SE.int) (SE.ix (SE.var (i := 0) rfl rfl) (SE.mod (SE.var (i := 1) rfl rfl) (SE.len (j := 0) (i := 2) rfl rfl (SA.cons .bw (SE.var (i := 0) rfl rfl) SA.nil)))) SE.int)) <|
  SSs.cons (SS.asg (i := 4) rfl rfl (SE.var (i := 3) rfl rfl)) <|
  SSs.cons (SS.ite (ST.ge (SE.var (i := 3) rfl rfl) (SE.pow SE.int SE.int)) (SSs.cons (SS.for (SI.range1 (j := 1) (i := 7) rfl rfl (SE.mod (SE.fdiv (SE.var (i := 1) rfl rfl) (SE.len (j := 0) (i := 2) rfl rfl (SA.cons .bw (SE.var (i := 0) rfl rfl) SA.nil))) SE.int)) (SG.name (i := 5) rfl rfl) (SSs.one (SS.asg (i := 4) rfl rfl (SE.fdiv (SE.var (i := 4) rfl rfl) SE.int)))) <|
    SSs.one (SS.ite (ST.gt (SE.var (i := 4) rfl rfl) SE.int) (SSs.one (SS.ret (SE.mod (SE.mod (SE.fdiv (SE.var (i := 4) rfl rfl) SE.int) SE.int) (SE.var (i := 2) rfl rfl)))) (SSs.nil))) (SSs.nil)) <|
  SSs.cons (SS.asg (i := 6) rfl rfl (SE.add (SE.add (SE.mod (SE.var (i := 3) rfl rfl) SE.int) (SE.mul (SE.mul SE.int (SE.var (i := 1) rfl rfl)) (SE.var (i := 1) rfl rfl))) SE.int)) <|
  SSs.one (SS.ret (SE.mod (SE.mod (SE.mul (SE.mod (SE.mul (SE.var (i := 6) rfl rfl) SE.int) SE.int) SE.int) SE.int) (SE.var (i := 2) rfl rfl)))
theorem sc_law_draw : FnScope c_law_draw.N ["script", "k", "many"] (defScope s_law_draw) := ⟨rfl, rfl, rfl, by decide +kernel, rfl, by decide +kernel, by decide +kernel⟩
abbrev s_law_pick : Stmt := top 16
def c_law_pick : Cxt := ⟨["state", "many"], defScope s_law_pick, [true, true], [true, true], ["_law_draw"]⟩
def m_law_pick (call : Nat → FSem) : M Fl :=
  sSeq (sSet 0 (cK (.str "k")) (c2 addD (c2 ixD (cVar 0) (cK (.str "k"))) (cK (.int 1)))) <|
  sRet (cCall (call 5) [cArg .val (c2 ixD (cVar 0) (cK (.str "script"))), cArg .val (c2 ixD (cVar 0) (cK (.str "k"))), cArg .val (cVar 1)])
theorem b_law_pick (call : Nat → FSem) : SSs Gp call c_law_pick (defBody s_law_pick) (m_law_pick call) :=
  SSs.cons (SS.set (i := 0) rfl rfl SE.str (SE.add (SE.ix (SE.var (i := 0) rfl rfl) SE.str) SE.int)) <|
  SSs.one (SS.ret (SE.fn (j := 0) (i := 5) rfl rfl (SA.cons .val (SE.ix (SE.var (i := 0) rfl rfl) SE.str) (SA.cons .val (SE.ix (SE.var (i := 0) rfl rfl) SE.str) (SA.cons .val (SE.var (i := 1) rfl rfl) SA.nil)))))
theorem sc_law_pick : FnScope c_law_pick.N ["state", "many"] (defScope s_law_pick) := ⟨rfl, rfl, rfl, by decide +kernel, rfl, by decide +kernel, by decide +kernel⟩
abbrev s_law_names : Stmt := top 17
def c_law_names : Cxt := ⟨["state", "some", "turn"], defScope s_law_names, [true, true, true], [true, true, true], ["len", "_law_pick"]⟩
def m_law_names (call : Nat → FSem) : M Fl :=
  sSeq (sAsg 1 (cLst [cK (.str "a"), cK (.str "ab"), cK (.str "abc"), cK (.str "lets"), cK (.str "leaper"), cK (.str "getit"), cK (.str "puts"), cK (.str "taken"), cK (.str "freed"), cK (.str "sender"), cK (.str "fetched"), cK (.str "says")])) <|
  sSeq (sAsg 1 (c2 addD (cVar 1) (cLst [cK (.str "clocks"), cK (.str "lots"), cK (.str "hearth"), cK (.str "added"), cK (.str "subway"), cK (.str "mulled"), cK (.str "lesser"), cK (.str "samey"), cK (.str "nothing")]))) <|
  sSeq (sAsg 1 (c2 addD (cVar 1) (cLst [cK (.str "boxes"), cK (.str "locker"), cK (.str "lanes"), cK (.str "doors"), cK (.str "hands"), cK (.str "b"), cK (.str "zzzzzzzz"), cK (.str "of"), cK (.str "num")]))) <|
  sSeq (sAsg 2 (cCall (call 6) [cArg .io (cVar 0), cArg .val (cN lenD [cArg .bw (cVar 1)])])) <|
  sRet (c2 addD (cSlice (cVar 1) (some (cVar 2)) none) (cSlice (cVar 1) none (some (cVar 2))))
theorem b_law_names (call : Nat → FSem) : SSs Gp call c_law_names (defBody s_law_names) (m_law_names call) :=
  SSs.cons (SS.asg (i := 1) rfl rfl (SE.lst (SL.cons SE.str (SL.cons SE.str (SL.cons SE.str (SL.cons SE.str (SL.cons SE.str (SL.cons SE.str (SL.cons SE.str (SL.cons SE.str (SL.cons SE.str (SL.cons SE.str (SL.cons SE.str (SL.cons SE.str SL.nil)))))))))))))) <|
  SSs.cons (SS.asg (i := 1) rfl rfl (SE.add (SE.var (i := 1) rfl rfl) (SE.lst (SL.cons SE.str (SL.cons SE.str (SL.cons SE.str (SL.cons SE.str (SL.cons SE.str (SL.cons SE.str (SL.cons SE.str (SL.cons SE.str (SL.cons SE.str SL.nil)))))))))))) <|
  SSs.cons (SS.asg (i := 1) rfl rfl (SE.add (SE.var (i := 1) rfl rfl) (SE.lst (SL.cons SE.str (SL.cons SE.str (SL.cons SE.str (SL.cons SE.str (SL.cons SE.str (SL.cons SE.str (SL.cons SE.str (SL.cons SE.str (SL.cons SE.str SL.nil)))))))))))) <|
  SSs.cons (SS.asg (i := 2) rfl rfl (SE.fn (j := 1) (i := 6) rfl rfl (SA.cons .io (SE.var (i := 0) rfl rfl) (SA.cons .val (SE.len (j := 0) (i := 2) rfl rfl (SA.cons .bw (SE.var (i := 1) rfl rfl) SA.nil)) SA.nil)))) <|
  SSs.one (SS.ret (SE.add (SE.slice (SE.var (i := 1) rfl rfl) (SP'.some (SE.var (i := 2) rfl rfl)) SP'.none) (SE.slice (SE.var (i := 1) rfl rfl) SP'.none (SP'.some (SE.var (i := 2) rfl rfl)))))
theorem sc_law_names : FnScope c_law_names.N ["state"] (defScope s_law_names) := ⟨rfl, rfl, rfl, by decide +kernel, rfl, by decide +kernel, by decide +kernel⟩
abbrev s_law_sum_in : Stmt := top 18
def c_law_sum_in : Cxt := ⟨["state", "pockets", "deep", "way", "word", "one"], defScope s_law_sum_in, [true, true, true, true, true, true], [true, true, true, true, true, true], ["_law_pick", "_law_sum_in", "len"]⟩
def m_law_sum_in (call : Nat → FSem) : M Fl :=
  sSeq (sAsg 3 (cCall (call 6) [cArg .io (cVar 0), cArg .val (cK (.int 9))])) <|
  sSeq (cIf (tAndM (cB (c2 ltD (cVar 2) (cK (.int 5)))) (tAndM (cB (c2 gtD (cVar 3) (cK (.int 2)))) (cB (c2 gtD (c2 ixD (cVar 0) (cK (.str "left"))) (cK (.int 1)))))) (sSeq (sSet 0 (cK (.str "left")) (c2 subD (c2 ixD (cVar 0) (cK (.str "left"))) (cK (.int 2)))) <|
    sSeq (sAsg 4 (c2 ixD (cLst [cK (.str "add"), cK (.str "sub"), cK (.str "mul"), cK (.str "less"), cK (.str "same")]) (cCall (call 6) [cArg .io (cVar 0), cArg .val (cK (.int 5))]))) <|
    sSeq (sAsg 5 (cCall (call 8) [cArg .io (cVar 0), cArg .val (cVar 1), cArg .val (c2 addD (cVar 2) (cK (.int 1)))])) <|
    sRet (cTup [cVar 4, cVar 5, cCall (call 8) [cArg .io (cVar 0), cArg .val (cVar 1), cArg .val (c2 addD (cVar 2) (cK (.int 1)))]])) (sNx)) <|
  sSeq (cIf (tAndM (cB (c2 ltD (cVar 2) (cK (.int 5)))) (tAndM (cB (c2 eqD (cVar 3) (cK (.int 2)))) (cB (c2 gtD (c2 ixD (cVar 0) (cK (.str "left"))) (cK (.int 0)))))) (sSeq (sSet 0 (cK (.str "left")) (c2 subD (c2 ixD (cVar 0) (cK (.str "left"))) (cK (.int 1)))) <|
    sRet (cTup [cK (.str "not"), cCall (call 8) [cArg .io (cVar 0), cArg .val (cVar 1), cArg .val (c2 addD (cVar 2) (cK (.int 1)))]])) (sNx)) <|
  sSeq (cIf (cB (c2 eqD (c2 modD (cVar 3) (cK (.int 2))) (cK (.int 0)))) (sRet (cTup [cK (.str "num"), c2 ixD (cLst [cK (.int 0), cK (.int 1), cK (.int 2), cK (.int 999), cCall (call 6) [cArg .io (cVar 0), cArg .val (cK (.int 1000))]]) (cCall (call 6) [cArg .io (cVar 0), cArg .val (cK (.int 5))])])) (sNx)) <|
  sRet (cTup [cK (.str "of"), c2 ixD (cVar 1) (cCall (call 6) [cArg .io (cVar 0), cArg .val (cN lenD [cArg .bw (cVar 1)])])])
theorem b_law_sum_in (call : Nat → FSem) : SSs Gp call c_law_sum_in (defBody s_law_sum_in) (m_law_sum_in call) :=
  SSs.cons (SS.asg (i := 3) rfl rfl (SE.fn (j := 0) (i := 6) rfl rfl (SA.cons .io (SE.var (i := 0) rfl rfl) (SA.cons .val SE.int SA.nil)))) <|
  SSs.cons (SS.ite (ST.w (SW.and (ST.lt (SE.var (i := 2) rfl rfl) SE.int) (SW.and (ST.gt (SE.var (i := 3) rfl rfl) SE.int) (SW.and1 (ST.gt (SE.ix (SE.var (i := 0) rfl rfl) SE.str) SE.int))))) (SSs.cons (SS.set (i := 0) rfl rfl SE.str (SE.sub (SE.ix (SE.var (i := 0) rfl rfl) SE.str) SE.int)) <|
    SSs.cons (SS.asg (i := 4) rfl rfl (SE.ix (SE.lst (SL.cons SE.str (SL.cons SE.str (SL.cons SE.str (SL.cons SE.str (SL.cons SE.str SL.nil)))))) (SE.fn (j := 0) (i := 6) rfl rfl (SA.cons .io (SE.var (i := 0) rfl rfl) (SA.cons .val SE.int SA.nil))))) <|
    SSs.cons (SS.asg (i := 5) rfl rfl (SE.fn (j := 1) (i := 8) rfl rfl (SA.cons .io (SE.var (i := 0) rfl rfl) (SA.cons .val (SE.var (i := 1) rfl rfl) (SA.cons .val (SE.add (SE.var (i := 2) rfl rfl) SE.int) SA.nil))))) <|
    SSs.one (SS.ret (SE.tup (SL.cons (SE.var (i := 4) rfl rfl) (SL.cons (SE.var (i := 5) rfl rfl) (SL.cons (SE.fn (j := 1) (i := 8) rfl rfl (SA.cons .io (SE.var (i := 0) rfl rfl) (SA.cons .val (SE.var (i := 1) rfl rfl) (SA.cons .val (SE.add (SE.var (i := 2) rfl rfl) SE.int) SA.nil)))) SL.nil)))))) (SSs.nil)) <|
  SSs.cons (SS.ite (ST.w (SW.and (ST.lt (SE.var (i := 2) rfl rfl) SE.int) (SW.and (ST.eq (SE.var (i := 3) rfl rfl) SE.int) (SW.and1 (ST.gt (SE.ix (SE.var (i := 0) rfl rfl) SE.str) SE.int))))) (SSs.cons (SS.set (i := 0) rfl rfl SE.str (SE.sub (SE.ix (SE.var (i := 0) rfl rfl) SE.str) SE.int)) <|
    SSs.one (SS.ret (SE.tup (SL.cons SE.str (SL.cons (SE.fn (j := 1) (i := 8) rfl rfl (SA.cons .io (SE.var (i := 0) rfl rfl) (SA.cons .val (SE.var (i := 1) rfl rfl) (SA.cons .val (SE.add (SE.var (i := 2) rfl rfl) SE.int) SA.nil)))) SL.nil))))) (SSs.nil)) <|
  SSs.cons (SS.ite (ST.eq (SE.mod (SE.var (i := 3) rfl rfl) SE.int) SE.int) (SSs.one (SS.ret (SE.tup (SL.cons SE.str (SL.cons (SE.ix (SE.lst (SL.cons SE.int (SL.cons SE.int (SL.cons SE.int (SL.cons SE.int (SL.cons (SE.fn (j := 0) (i := 6) rfl rfl (SA.cons .io (SE.var (i := 0) rfl rfl) (SA.cons .val SE.int SA.nil))) SL.nil)))))) (SE.fn (j := 0) (i := 6) rfl rfl (SA.cons .io (SE.var (i := 0) rfl rfl) (SA.cons .val SE.int SA.nil)))) SL.nil))))) (SSs.nil)) <|
  SSs.one (SS.ret (SE.tup (SL.cons SE.str (SL.cons (SE.ix (SE.var (i := 1) rfl rfl) (SE.fn (j := 0) (i := 6) rfl rfl (SA.cons .io (SE.var (i := 0) rfl rfl) (SA.cons .val (SE.len (j := 2) (i := 2) rfl rfl (SA.cons .bw (SE.var (i := 1) rfl rfl) SA.nil)) SA.nil)))) SL.nil))))
theorem sc_law_sum_in : FnScope c_law_sum_in.N ["state", "pockets", "deep"] (defScope s_law_sum_in) := ⟨rfl, rfl, rfl, by decide +kernel, rfl, by decide +kernel, by decide +kernel⟩
abbrev s_law_sum : Stmt := top 19
def c_law_sum : Cxt := ⟨["state", "pockets"], defScope s_law_sum, [true, true], [true, true], ["_law_pick", "_law_sum_in"]⟩
def m_law_sum (call : Nat → FSem) : M Fl :=
  sSeq (sSet 0 (cK (.str "left")) (c2 ixD (cLst [cK (.int 0), cK (.int 2), cK (.int 5), cK (.int 11)]) (cCall (call 6) [cArg .io (cVar 0), cArg .val (cK (.int 4))]))) <|
  sRet (cCall (call 8) [cArg .io (cVar 0), cArg .val (cVar 1), cArg .val (cK (.int 1))])
theorem b_law_sum (call : Nat → FSem) : SSs Gp call c_law_sum (defBody s_law_sum) (m_law_sum call) :=
  SSs.cons (SS.set (i := 0) rfl rfl SE.str (SE.ix (SE.lst (SL.cons SE.int (SL.cons SE.int (SL.cons SE.int (SL.cons SE.int SL.nil))))) (SE.fn (j := 0) (i := 6) rfl rfl (SA.cons .io (SE.var (i := 0) rfl rfl) (SA.cons .val SE.int SA.nil))))) <|
  SSs.one (SS.ret (SE.fn (j := 1) (i := 8) rfl rfl (SA.cons .io (SE.var (i := 0) rfl rfl) (SA.cons .val (SE.var (i := 1) rfl rfl) (SA.cons .val SE.int SA.nil)))))
theorem sc_law_sum : FnScope c_law_sum.N ["state", "pockets"] (defScope s_law_sum) := ⟨rfl, rfl, rfl, by decide +kernel, rfl, by decide +kernel, by decide +kernel⟩
abbrev s_law_odd : Stmt := top 20
def c_law_odd : Cxt := ⟨["state", "thing", "some"], defScope s_law_odd, [true, true, true], [true, true, true], ["tuple", "isinstance", "list", "len", "_law_pick"]⟩
def m_law_odd (call : Nat → FSem) : M Fl :=
  sSeq (sAsg 2 (cLst [cK (.non), cK (.bl true), cK (.bl false), cK (.int 0), cK (.int 1), cK (.int 1000), c1 negD (cK (.int 1)), cK (.int 999), cK (.str ""), cK (.str "a"), cK (.str "lets"), cK (.str "let"), cK (.str "add"), cK (.str "num"), cK (.str "of"), cK (.str "not"), cTup [], cLst [], cDic0])) <|
  sSeq (sAsg 2 (c2 addD (cVar 2) (cLst [cTup [cK (.str "num"), cK (.int 5)], cTup [cK (.str "num"), cK (.bl true)], cTup [cK (.str "num"), cK (.int 1000)], cTup [cK (.str "of"), cK (.str "let")], cTup [cK (.str "not")], cTup [cK (.str "add"), cTup [cK (.str "num"), cK (.int 1)]], c2 powD (cK (.int 10)) (cK (.int 39))]))) <|
  sSeq (sAsg 2 (c2 addD (cVar 2) (cLst [cTup [cK (.str "num"), cLst [cK (.int 5)]], cLst [cK (.str "num"), cK (.int 5)], cTup [cK (.str "of"), cK (.str "A")], cTup [cK (.str "of"), cK (.str "")], cTup [cK (.str "of"), cK (.str "abcdefghi")], cDic [(cK (.str "num"), cK (.int 5))], cTup [cK (.str "a"), cK (.int 5)]]))) <|
  sSeq (sAsg 2 (c2 addD (cVar 2) (cLst [cTup [cK (.str "not"), cTup [cK (.str "of"), cK (.str "not")]], cTup [cK (.str "take"), cK (.str "a")], cTup [cK (.str "clock"), cK (.str "b")], cTup [cK (.str "leap"), cK (.int 0), cTup [cK (.str "num"), cK (.int 1)]], cK (.int 31), cK (.str "box"), cK (.int 1001), cK (.int 2)]))) <|
  sSeq (cIf (cT (cN isiD [cArg .bw (cVar 1), cArg .bw (cK (.ty "tuple"))])) (sAsg 2 (c2 addD (cVar 2) (cLst [cN PV.listOf [cArg .bw (cVar 1)], c2 addD (cVar 1) (cTup [cK (.int 0)]), cSlice (cVar 1) none (some (c1 negD (cK (.int 1)))), cTup [cK (.str "not"), cVar 1], c2 addD (cVar 1) (cSlice (cVar 1) none (some (cK (.int 1)))), cSlice (cVar 1) (some (cK (.int 1))) none, c2 mulD (cVar 1) (cK (.int 2))]))) (sNx)) <|
  sRet (c2 ixD (cVar 2) (cCall (call 6) [cArg .io (cVar 0), cArg .val (cN lenD [cArg .bw (cVar 2)])]))
theorem b_law_odd (call : Nat → FSem) : SSs Gp call c_law_odd (defBody s_law_odd) (m_law_odd call) :=
  SSs.cons (SS.asg (i := 2) rfl rfl (SE.lst (SL.cons SE.non (SL.cons SE.bl (SL.cons SE.bl (SL.cons SE.int (SL.cons SE.int (SL.cons SE.int (SL.cons (SE.neg SE.int) (SL.cons SE.int (SL.cons SE.str (SL.cons SE.str (SL.cons SE.str (SL.cons SE.str (SL.cons SE.str (SL.cons SE.str (SL.cons SE.str (SL.cons SE.str (SL.cons (SE.tup SL.nil) (SL.cons (SE.lst SL.nil) (SL.cons SE.dic0 SL.nil))))))))))))))))))))) <|
  SSs.cons (SS.asg (i := 2) rfl rfl (SE.add (SE.var (i := 2) rfl rfl) (SE.lst (SL.cons (SE.tup (SL.cons SE.str (SL.cons SE.int SL.nil))) (SL.cons (SE.tup (SL.cons SE.str (SL.cons SE.bl SL.nil))) (SL.cons (SE.tup (SL.cons SE.str (SL.cons SE.int SL.nil))) (SL.cons (SE.tup (SL.cons SE.str (SL.cons SE.str SL.nil))) (SL.cons (SE.tup (SL.cons SE.str SL.nil)) (SL.cons (SE.tup (SL.cons SE.str (SL.cons (SE.tup (SL.cons SE.str (SL.cons SE.int SL.nil))) SL.nil))) (SL.cons (SE.pow SE.int SE.int) SL.nil)))))))))) <|
  SSs.cons (SS.asg (i := 2) rfl rfl (SE.add (SE.var (i := 2) rfl rfl) (SE.lst (SL.cons (SE.tup (SL.cons SE.str (SL.cons (SE.lst (SL.cons SE.int SL.nil)) SL.nil))) (SL.cons (SE.lst (SL.cons SE.str (SL.cons SE.int SL.nil))) (SL.cons (SE.tup (SL.cons SE.str (SL.cons SE.str SL.nil))) (SL.cons (SE.tup (SL.cons SE.str (SL.cons SE.str SL.nil))) (SL.cons (SE.tup (SL.cons SE.str (SL.cons SE.str SL.nil))) (SL.cons (SE.dic (SPP.cons SE.str SE.int SPP.nil) rfl rfl (by simp) (by decide) rfl) (SL.cons (SE.tup (SL.cons SE.str (SL.cons SE.int SL.nil))) SL.nil)))))))))) <|
  SSs.cons (SS.asg (i := 2) rfl rfl (SE.add (SE.var (i := 2) rfl rfl) (SE.lst (SL.cons (SE.tup (SL.cons SE.str (SL.cons (SE.tup (SL.cons SE.str (SL.cons SE.str SL.nil))) SL.nil))) (SL.cons (SE.tup (SL.cons SE.str (SL.cons SE.str SL.nil))) (SL.cons (SE.tup (SL.cons SE.str (SL.cons SE.str SL.nil))) (SL.cons (SE.tup (SL.cons SE.str (SL.cons SE.int (SL.cons (SE.tup (SL.cons SE.str (SL.cons SE.int SL.nil))) SL.nil)))) (SL.cons SE.int (SL.cons SE.str (SL.cons SE.int (SL.cons SE.int SL.nil))))))))))) <|
  SSs.cons (SS.ite (ST.truth (SE.isi (j := 1) (i := 1) rfl rfl (SA.cons .bw (SE.var (i := 1) rfl rfl) (SA.cons .bw (SE.ty (j := 0) (i := 6) rfl rfl bt_tuple) SA.nil)))) (SSs.one (SS.asg (i := 2) rfl rfl (SE.add (SE.var (i := 2) rfl rfl) (SE.lst (SL.cons (SE.listOf (j := 2) (i := 8) rfl rfl (SA.cons .bw (SE.var (i := 1) rfl rfl) SA.nil)) (SL.cons (SE.add (SE.var (i := 1) rfl rfl) (SE.tup (SL.cons SE.int SL.nil))) (SL.cons (SE.slice (SE.var (i := 1) rfl rfl) SP'.none (SP'.some (SE.neg SE.int))) (SL.cons (SE.tup (SL.cons SE.str (SL.cons (SE.var (i := 1) rfl rfl) SL.nil))) (SL.cons (SE.add (SE.var (i := 1) rfl rfl) (SE.slice (SE.var (i := 1) rfl rfl) SP'.none (SP'.some SE.int))) (SL.cons (SE.slice (SE.var (i := 1) rfl rfl) (SP'.some SE.int) SP'.none) (SL.cons (SE.mul (SE.var (i := 1) rfl rfl) SE.int) SL.nil))))))))))) (SSs.nil)) <|
  SSs.one (SS.ret (SE.ix (SE.var (i := 2) rfl rfl) (SE.fn (j := 4) (i := 6) rfl rfl (SA.cons .io (SE.var (i := 0) rfl rfl) (SA.cons .val (SE.len (j := 3) (i := 2) rfl rfl (SA.cons .bw (SE.var (i := 2) rfl rfl) SA.nil)) SA.nil)))))
theorem sc_law_odd : FnScope c_law_odd.N ["state", "thing"] (defScope s_law_odd) := ⟨rfl, rfl, rfl, by decide +kernel, rfl, by decide +kernel, by decide +kernel⟩
abbrev s_law_bent : Stmt := top 21
def c_law_bent : Cxt := ⟨["state", "thing", "deep", "k", "part"], defScope s_law_bent, [true, true, true, true, true], [true, true, true, true, true], ["tuple", "isinstance", "len", "_law_pick", "_law_bent", "_law_odd"]⟩
def m_law_bent (call : Nat → FSem) : M Fl :=
  sSeq (cIf (tAndM (cT (cN isiD [cArg .bw (cVar 1), cArg .bw (cK (.ty "tuple"))])) (tAndM (cB (c2 gtD (cN lenD [cArg .bw (cVar 1)]) (cK (.int 0)))) (tAndM (cB (c2 ltD (cVar 2) (cK (.int 7)))) (cB (c2 gtD (cCall (call 6) [cArg .io (cVar 0), cArg .val (cK (.int 4))]) (cK (.int 0))))))) (sSeq (sAsg 3 (cCall (call 6) [cArg .io (cVar 0), cArg .val (cN lenD [cArg .bw (cVar 1)])])) <|
    sSeq (sAsg 4 (cCall (call 11) [cArg .io (cVar 0), cArg .val (c2 ixD (cVar 1) (cVar 3)), cArg .val (c2 addD (cVar 2) (cK (.int 1)))])) <|
    sRet (c2 addD (c2 addD (cSlice (cVar 1) none (some (cVar 3))) (cTup [cVar 4])) (cSlice (cVar 1) (some (c2 addD (cVar 3) (cK (.int 1)))) none))) (sNx)) <|
  sRet (cCall (call 10) [cArg .io (cVar 0), cArg .val (cVar 1)])
theorem b_law_bent (call : Nat → FSem) : SSs Gp call c_law_bent (defBody s_law_bent) (m_law_bent call) :=
  SSs.cons (SS.ite (ST.w (SW.and (ST.truth (SE.isi (j := 1) (i := 1) rfl rfl (SA.cons .bw (SE.var (i := 1) rfl rfl) (SA.cons .bw (SE.ty (j := 0) (i := 6) rfl rfl bt_tuple) SA.nil)))) (SW.and (ST.gt (SE.len (j := 2) (i := 2) rfl rfl (SA.cons .bw (SE.var (i := 1) rfl rfl) SA.nil)) SE.int) (SW.and (ST.lt (SE.var (i := 2) rfl rfl) SE.int) (SW.and1 (ST.gt (SE.fn (j := 3) (i := 6) rfl rfl (SA.cons .io (SE.var (i := 0) rfl rfl) (SA.cons .val SE.int SA.nil))) SE.int)))))) (SSs.cons (SS.asg (i := 3) rfl rfl (SE.fn (j := 3) (i := 6) rfl rfl (SA.cons .io (SE.var (i := 0) rfl rfl) (SA.cons .val (SE.len (j := 2) (i := 2) rfl rfl (SA.cons .bw (SE.var (i := 1) rfl rfl) SA.nil)) SA.nil)))) <|
    SSs.cons (SS.asg (i := 4) rfl rfl (SE.fn (j := 4) (i := 11) rfl rfl (SA.cons .io (SE.var (i := 0) rfl rfl) (SA.cons .val (SE.ix (SE.var (i := 1) rfl rfl) (SE.var (i := 3) rfl rfl)) (SA.cons .val (SE.add (SE.var (i := 2) rfl rfl) SE.int) SA.nil))))) <|
    SSs.one (SS.ret (SE.add (SE.add (SE.slice (SE.var (i := 1) rfl rfl) SP'.none (SP'.some (SE.var (i := 3) rfl rfl))) (SE.tup (SL.cons (SE.var (i := 4) rfl rfl) SL.nil))) (SE.slice (SE.var (i := 1) rfl rfl) (SP'.some (SE.add (SE.var (i := 3) rfl rfl) SE.int)) SP'.none)))) (SSs.nil)) <|
  SSs.one (SS.ret (SE.fn (j := 5) (i := 10) rfl rfl (SA.cons .io (SE.var (i := 0) rfl rfl) (SA.cons .val (SE.var (i := 1) rfl rfl) SA.nil))))
theorem sc_law_bent : FnScope c_law_bent.N ["state", "thing", "deep"] (defScope s_law_bent) := ⟨rfl, rfl, rfl, by decide +kernel, rfl, by decide +kernel, by decide +kernel⟩
abbrev s_law_whole : Stmt := top 22
def c_law_whole : Cxt := ⟨["thing", "least", "most"], defScope s_law_whole, [true, true, true], [true, true, true], ["int", "isinstance", "bool"]⟩
def m_law_whole (call : Nat → FSem) : M Fl :=
  sRet (cAndV (cN isiD [cArg .bw (cVar 0), cArg .bw (cK (.ty "int"))]) (cAndV (cNotV (cN isiD [cArg .bw (cVar 0), cArg .bw (cK (.ty "bool"))])) (cChain leD leD (cVar 1) (cVar 0) (cVar 2))))
theorem b_law_whole (call : Nat → FSem) : SSs Gp call c_law_whole (defBody s_law_whole) (m_law_whole call) :=
  SSs.one (SS.ret (SE.and (SE.isi (j := 1) (i := 1) rfl rfl (SA.cons .bw (SE.var (i := 0) rfl rfl) (SA.cons .bw (SE.ty (j := 0) (i := 4) rfl rfl bt_int) SA.nil))) (SE.and (SE.notT (SE.isi (j := 1) (i := 1) rfl rfl (SA.cons .bw (SE.var (i := 0) rfl rfl) (SA.cons .bw (SE.ty (j := 2) (i := 5) rfl rfl bt_bool) SA.nil)))) (SE.one (SE.leLe (SE.var (i := 1) rfl rfl) (SE.var (i := 0) rfl rfl) (SE.var (i := 2) rfl rfl))))))
theorem sc_law_whole : FnScope c_law_whole.N ["thing", "least", "most"] (defScope s_law_whole) := ⟨rfl, rfl, rfl, by decide +kernel, rfl, by decide +kernel, by decide +kernel⟩
abbrev s_law_is_name : Stmt := top 23
def c_law_is_name : Cxt := ⟨["thing", "language", "sign"], defScope s_law_is_name, [true, true, false], [true, true, false], ["str", "isinstance", "len"]⟩
def m_law_is_name (call : Nat → FSem) : M Fl :=
  sSeq (sAsg 1 (cK (.str "let leap get put take free send fetch say clock lot hear add sub mul less same not box lock lane"))) <|
  sSeq (cIf (tOrM (tNotM (cT (cN isiD [cArg .bw (cVar 0), cArg .bw (cK (.ty "str"))]))) (tOrM (cB (c2 inD (cVar 0) (c1 (splitF " ") (cVar 1)))) (cB (c2 inD (cVar 0) (cTup [cK (.str "door"), cK (.str "hand")]))))) (sRet (cK (.bl false))) (sNx)) <|
  sRet (cAndV (cChain ltD ltD (cK (.int 0)) (cN lenD [cArg .bw (cVar 0)]) (cK (.int 9))) (c2 eqD (cComp [2] (cSeq (cVar 0)) (tgN 2) (cB (c2 notInD (cVar 2) (cK (.str "abcdefghijklmnopqrstuvwxyz")))) (cVar 2)) (cLst [])))
theorem b_law_is_name (call : Nat → FSem) : SSs Gp call c_law_is_name (defBody s_law_is_name) (m_law_is_name call) :=
  SSs.cons (SS.asg (i := 1) rfl rfl SE.str) <|
  SSs.cons (SS.ite (ST.w (SW.or (ST.not (ST.truth (SE.isi (j := 1) (i := 1) rfl rfl (SA.cons .bw (SE.var (i := 0) rfl rfl) (SA.cons .bw (SE.ty (j := 0) (i := 0) rfl rfl bt_str) SA.nil))))) (SW.or (ST.mem (SE.var (i := 0) rfl rfl) (SE.split (SE.var (i := 1) rfl rfl))) (SW.or1 (ST.mem (SE.var (i := 0) rfl rfl) (SE.tup (SL.cons SE.str (SL.cons SE.str SL.nil)))))))) (SSs.one (SS.ret SE.bl)) (SSs.nil)) <|
  SSs.one (SS.ret (SE.and (SE.ltLt SE.int (SE.len (j := 2) (i := 2) rfl rfl (SA.cons .bw (SE.var (i := 0) rfl rfl) SA.nil)) SE.int) (SE.one (SE.eq (SE.lcIf [("sign", 2)] [false, false, true] [false, false, true] [] (SI.seq (SE.var (i := 0) rfl rfl)) (SG.name (i := 2) rfl rfl) (ST.notMem (SE.var (i := 2) rfl rfl) SE.str) (SE.var (i := 2) rfl rfl)) (SE.lst SL.nil)))))
theorem sc_law_is_name : FnScope c_law_is_name.N ["thing"] (defScope s_law_is_name) := ⟨rfl, rfl, rfl, by decide +kernel, rfl, by decide +kernel, by decide +kernel⟩
abbrev s_law_sums_in : Stmt := top 24
def c_law_sums_in : Cxt := ⟨["thing", "deep", "sizes", "part"], defScope s_law_sums_in, [true, true, true, false], [true, true, true, false], ["tuple", "isinstance", "len", "_law_whole", "_law_is_name", "str", "sum"]⟩
def m_law_sums_in (call : Nat → FSem) : M Fl :=
  sSeq (cIf (tOrM (tNotM (cT (cN isiD [cArg .bw (cVar 0), cArg .bw (cK (.ty "tuple"))]))) (tOrM (cB (c2 eqD (cN lenD [cArg .bw (cVar 0)]) (cK (.int 0)))) (cB (c2 gtD (cVar 1) (cK (.int 5)))))) (sRet (cK (.int 99))) (sNx)) <|
  sSeq (cIf (tAndM (cB (c2 eqD (c2 ixD (cVar 0) (cK (.int 0))) (cK (.str "num")))) (tAndM (cB (c2 eqD (cN lenD [cArg .bw (cVar 0)]) (cK (.int 2)))) (cT (cCall (call 12) [cArg .val (c2 ixD (cVar 0) (cK (.int 1))), cArg .val (cK (.int 0)), cArg .val (cK (.int 999))])))) (sRet (cK (.int 1))) (sNx)) <|
  sSeq (cIf (tAndM (cB (c2 eqD (c2 ixD (cVar 0) (cK (.int 0))) (cK (.str "of")))) (tAndM (cB (c2 eqD (cN lenD [cArg .bw (cVar 0)]) (cK (.int 2)))) (cT (cCall (call 13) [cArg .val (c2 ixD (cVar 0) (cK (.int 1)))])))) (sRet (cK (.int 1))) (sNx)) <|
  sSeq (sAsg 2 (cDic [(cK (.str "add"), cK (.int 3)), (cK (.str "sub"), cK (.int 3)), (cK (.str "mul"), cK (.int 3)), (cK (.str "less"), cK (.int 3)), (cK (.str "same"), cK (.int 3)), (cK (.str "not"), cK (.int 2))])) <|
  sSeq (cIf (tOrM (tNotM (cT (cN isiD [cArg .bw (c2 ixD (cVar 0) (cK (.int 0))), cArg .bw (cK (.ty "str"))]))) (cB (c2 neD (cGet2 (cVar 2) (c2 ixD (cVar 0) (cK (.int 0))) (cK (.int 0))) (cN lenD [cArg .bw (cVar 0)])))) (sRet (cK (.int 99))) (sNx)) <|
  sRet (c2 addD (cK (.int 1)) (cN sumD [cArg .bw (cComp [3] (cSeq (cSlice (cVar 0) (some (cK (.int 1))) none)) (tgN 3) tYesM (cCall (call 14) [cArg .val (cVar 3), cArg .val (c2 addD (cVar 1) (cK (.int 1)))]))]))
theorem b_law_sums_in (call : Nat → FSem) : SSs Gp call c_law_sums_in (defBody s_law_sums_in) (m_law_sums_in call) :=
  SSs.cons (SS.ite (ST.w (SW.or (ST.not (ST.truth (SE.isi (j := 1) (i := 1) rfl rfl (SA.cons .bw (SE.var (i := 0) rfl rfl) (SA.cons .bw (SE.ty (j := 0) (i := 6) rfl rfl bt_tuple) SA.nil))))) (SW.or (ST.eq (SE.len (j := 2) (i := 2) rfl rfl (SA.cons .bw (SE.var (i := 0) rfl rfl) SA.nil)) SE.int) (SW.or1 (ST.gt (SE.var (i := 1) rfl rfl) SE.int))))) (SSs.one (SS.ret SE.int)) (SSs.nil)) <|
  SSs.cons (SS.ite (ST.w (SW.and (ST.eq (SE.ix (SE.var (i := 0) rfl rfl) SE.int) SE.str) (SW.and (ST.eq (SE.len (j := 2) (i := 2) rfl rfl (SA.cons .bw (SE.var (i := 0) rfl rfl) SA.nil)) SE.int) (SW.and1 (ST.truth (SE.fn (j := 3) (i := 12) rfl rfl (SA.cons .val (SE.ix (SE.var (i := 0) rfl rfl) SE.int) (SA.cons .val SE.int (SA.cons .val SE.int SA.nil))))))))) (SSs.one (SS.ret SE.int)) (SSs.nil)) <|
  SSs.cons (SS.ite (ST.w (SW.and (ST.eq (SE.ix (SE.var (i := 0) rfl rfl) SE.int) SE.str) (SW.and (ST.eq (SE.len (j := 2) (i := 2) rfl rfl (SA.cons .bw (SE.var (i := 0) rfl rfl) SA.nil)) SE.int) (SW.and1 (ST.truth (SE.fn (j := 4) (i := 13) rfl rfl (SA.cons .val (SE.ix (SE.var (i := 0) rfl rfl) SE.int) SA.nil))))))) (SSs.one (SS.ret SE.int)) (SSs.nil)) <|
  SSs.cons (SS.asg (i := 2) rfl rfl (SE.dic (SPP.cons SE.str SE.int (SPP.cons SE.str SE.int (SPP.cons SE.str SE.int (SPP.cons SE.str SE.int (SPP.cons SE.str SE.int (SPP.cons SE.str SE.int SPP.nil)))))) rfl rfl (by simp) (by decide) rfl)) <|
  SSs.cons (SS.ite (ST.w (SW.or (ST.not (ST.truth (SE.isi (j := 1) (i := 1) rfl rfl (SA.cons .bw (SE.ix (SE.var (i := 0) rfl rfl) SE.int) (SA.cons .bw (SE.ty (j := 5) (i := 0) rfl rfl bt_str) SA.nil))))) (SW.or1 (ST.ne (SE.get2 (SE.var (i := 2) rfl rfl) (SE.ix (SE.var (i := 0) rfl rfl) SE.int) SE.int) (SE.len (j := 2) (i := 2) rfl rfl (SA.cons .bw (SE.var (i := 0) rfl rfl) SA.nil)))))) (SSs.one (SS.ret SE.int)) (SSs.nil)) <|
  SSs.one (SS.ret (SE.add SE.int (SE.sum (j := 6) (i := 9) rfl rfl (SA.cons .bw (SE.lc [("part", 3)] [false, true, false, true] [false, false, false, true] ["_law_sums_in"] (SI.seq (SE.slice (SE.var (i := 0) rfl rfl) (SP'.some SE.int) SP'.none)) (SG.name (i := 3) rfl rfl) (SE.fn (j := 0) (i := 14) rfl rfl (SA.cons .val (SE.var (i := 3) rfl rfl) (SA.cons .val (SE.add (SE.var (i := 1) rfl rfl) SE.int) SA.nil)))) SA.nil))))
theorem sc_law_sums_in : FnScope c_law_sums_in.N ["thing", "deep"] (defScope s_law_sums_in) := ⟨rfl, rfl, rfl, by decide +kernel, rfl, by decide +kernel, by decide +kernel⟩
abbrev s_law_is_sum : Stmt := top 25
def c_law_is_sum : Cxt := ⟨["thing"], defScope s_law_is_sum, [true], [true], ["_law_sums_in"]⟩
def m_law_is_sum (call : Nat → FSem) : M Fl :=
  sRet (c2 leD (cCall (call 14) [cArg .val (cVar 0), cArg .val (cK (.int 1))]) (cK (.int 12)))
theorem b_law_is_sum (call : Nat → FSem) : SSs Gp call c_law_is_sum (defBody s_law_is_sum) (m_law_is_sum call) :=
  SSs.one (SS.ret (SE.le (SE.fn (j := 0) (i := 14) rfl rfl (SA.cons .val (SE.var (i := 0) rfl rfl) (SA.cons .val SE.int SA.nil))) SE.int))
theorem sc_law_is_sum : FnScope c_law_is_sum.N ["thing"] (defScope s_law_is_sum) := ⟨rfl, rfl, rfl, by decide +kernel, rfl, by decide +kernel, by decide +kernel⟩
abbrev s_law_bounds : Stmt := top 26
def c_law_bounds : Cxt := ⟨["seven", "four", "five", "deep", "some"], defScope s_law_bounds, [true, true, true, true, true], [true, true, true, true, true], []⟩
def m_law_bounds (call : Nat → FSem) : M Fl :=
  sSeq (sAsg 0 (cTup [cK (.str "add"), cTup [cK (.str "add"), cTup [cK (.str "num"), cK (.int 1)], cTup [cK (.str "num"), cK (.int 1)]], cTup [cK (.str "add"), cTup [cK (.str "num"), cK (.int 1)], cTup [cK (.str "of"), cK (.str "a")]]])) <|
  sSeq (sAsg 1 (cTup [cK (.str "add"), cTup [cK (.str "num"), cK (.int 1)], cTup [cK (.str "not"), cTup [cK (.str "num"), cK (.int 1)]]])) <|
  sSeq (sAsg 2 (cTup [cK (.str "sub"), cTup [cK (.str "not"), cTup [cK (.str "num"), cK (.int 1)]], cTup [cK (.str "not"), cTup [cK (.str "num"), cK (.int 1)]]])) <|
  sSeq (sAsg 3 (cTup [cK (.str "not"), cTup [cK (.str "not"), cTup [cK (.str "not"), cTup [cK (.str "not"), cTup [cK (.str "num"), cK (.int 1)]]]]])) <|
  sSeq (sAsg 4 (cLst [cTup [cK (.str "mul"), cVar 0, cVar 1], cTup [cK (.str "mul"), cVar 0, cVar 2], cTup [cK (.str "mul"), cVar 2, cVar 0]])) <|
  sRet (c2 addD (cVar 4) (cLst [cVar 3, cTup [cK (.str "not"), cVar 3], cTup [cK (.str "add"), cTup [cK (.str "num"), cK (.int 1)], cVar 3]]))
theorem b_law_bounds (call : Nat → FSem) : SSs Gp call c_law_bounds (defBody s_law_bounds) (m_law_bounds call) :=
  SSs.cons (SS.asg (i := 0) rfl rfl (SE.tup (SL.cons SE.str (SL.cons (SE.tup (SL.cons SE.str (SL.cons (SE.tup (SL.cons SE.str (SL.cons SE.int SL.nil))) (SL.cons (SE.tup (SL.cons SE.str (SL.cons SE.int SL.nil))) SL.nil)))) (SL.cons (SE.tup (SL.cons SE.str (SL.cons (SE.tup (SL.cons SE.str (SL.cons SE.int SL.nil))) (SL.cons (SE.tup (SL.cons SE.str (SL.cons SE.str SL.nil))) SL.nil)))) SL.nil))))) <|
  SSs.cons (SS.asg (i := 1) rfl rfl (SE.tup (SL.cons SE.str (SL.cons (SE.tup (SL.cons SE.str (SL.cons SE.int SL.nil))) (SL.cons (SE.tup (SL.cons SE.str (SL.cons (SE.tup (SL.cons SE.str (SL.cons SE.int SL.nil))) SL.nil))) SL.nil))))) <|
  SSs.cons (SS.asg (i := 2) rfl rfl (SE.tup (SL.cons SE.str (SL.cons (SE.tup (SL.cons SE.str (SL.cons (SE.tup (SL.cons SE.str (SL.cons SE.int SL.nil))) SL.nil))) (SL.cons (SE.tup (SL.cons SE.str (SL.cons (SE.tup (SL.cons SE.str (SL.cons SE.int SL.nil))) SL.nil))) SL.nil))))) <|
  SSs.cons (SS.asg (i := 3) rfl rfl (SE.tup (SL.cons SE.str (SL.cons (SE.tup (SL.cons SE.str (SL.cons (SE.tup (SL.cons SE.str (SL.cons (SE.tup (SL.cons SE.str (SL.cons (SE.tup (SL.cons SE.str (SL.cons SE.int SL.nil))) SL.nil))) SL.nil))) SL.nil))) SL.nil)))) <|
  SSs.cons (SS.asg (i := 4) rfl rfl (SE.lst (SL.cons (SE.tup (SL.cons SE.str (SL.cons (SE.var (i := 0) rfl rfl) (SL.cons (SE.var (i := 1) rfl rfl) SL.nil)))) (SL.cons (SE.tup (SL.cons SE.str (SL.cons (SE.var (i := 0) rfl rfl) (SL.cons (SE.var (i := 2) rfl rfl) SL.nil)))) (SL.cons (SE.tup (SL.cons SE.str (SL.cons (SE.var (i := 2) rfl rfl) (SL.cons (SE.var (i := 0) rfl rfl) SL.nil)))) SL.nil))))) <|
  SSs.one (SS.ret (SE.add (SE.var (i := 4) rfl rfl) (SE.lst (SL.cons (SE.var (i := 3) rfl rfl) (SL.cons (SE.tup (SL.cons SE.str (SL.cons (SE.var (i := 3) rfl rfl) SL.nil))) (SL.cons (SE.tup (SL.cons SE.str (SL.cons (SE.tup (SL.cons SE.str (SL.cons SE.int SL.nil))) (SL.cons (SE.var (i := 3) rfl rfl) SL.nil)))) SL.nil))))))
theorem sc_law_bounds : FnScope c_law_bounds.N [] (defScope s_law_bounds) := ⟨rfl, rfl, rfl, by decide +kernel, rfl, by decide +kernel, by decide +kernel⟩
abbrev s_law : Stmt := top 27
def c_law : Cxt := ⟨["script", "state", "words", "things", "thing", "found", "some", "k", "turn"], defScope s_law, [true, true, true, true, true, true, true, true, true], [true, true, true, true, true, true, true, true, true], ["_law_names", "is_name", "bool", "isinstance", "_law_is_name", "_law_bounds", "range", "_law_sum", "_law_bent", "is_sum", "_law_is_sum"]⟩
def m_law (call : Nat → FSem) : M Fl :=
  sSeq (sAsg 1 (cDic [(cK (.str "script"), cVar 0), (cK (.str "k"), cK (.int 0))])) <|
  sSeq (sAsg 2 (cK (.str "let leap get put take free send fetch say clock lot hear add sub mul less same not box lock"))) <|
  sSeq (sAsg 2 (c2 addD (cVar 2) (cK (.str " lane door hand")))) <|
  sSeq (sAsg 3 (c2 addD (c2 addD (c1 (splitF " ") (cVar 2)) (cCall (call 7) [cArg .io (cVar 1)])) (cLst [cK (.str ""), cK (.str "A"), cK (.str "aB"), cK (.str "a1"), cK (.str "a b"), cK (.str " a"), cK (.str "a "), cK (.str "a/2")]))) <|
  sSeq (sAsg 3 (c2 addD (cVar 3) (cLst [cK (.str "abcdefghi"), cK (.str "abcdefgh"), cK (.non), cK (.int 1), cK (.bl true), cTup [], cLst [], cDic0, cTup [cK (.str "a")], cLst [cK (.str "a")], cK (.str "z"), cK (.str "e-f")]))) <|
  sSeq (sFor (cSeq (cVar 3)) (tgN 4) (sSeq (sAsg 5 (cCall (call 0) [cArg .val (cVar 4)])) <|
    cIf (tOrM (tNotM (cT (cN isiD [cArg .bw (cVar 5), cArg .bw (cK (.ty "bool"))]))) (cB (c2 neD (cVar 5) (cCall (call 13) [cArg .val (cVar 4)])))) (sRet (cK (.bl false))) (sNx))) <|
  sSeq (sAsg 6 (c2 addD (cCall (call 16) []) (cComp [7] (cRange1 (cK (.int 6))) (tgN 7) tYesM (cCall (call 10) [cArg .io (cVar 1), cArg .val (cTup [])])))) <|
  sSeq (sFor (cRange1 (cK (.int 8))) (tgN 7) (sSeq (sAsg 4 (cCall (call 9) [cArg .io (cVar 1), cArg .val (cLst [cK (.str "a"), cK (.str "lets"), cK (.str "num"), cK (.str "zzzzzzzz")])])) <|
    sFor (cRange1 (cK (.int 4))) (tgN 8) (sSeq (sExpr (cMut 6 "list" appF [cVar 4])) <|
      sAsg 4 (cCall (call 11) [cArg .io (cVar 1), cArg .val (cVar 4), cArg .val (cK (.int 0))])))) <|
  sSeq (sFor (cSeq (cVar 6)) (tgN 4) (sSeq (sAsg 5 (cCall (call 4) [cArg .val (cVar 4)])) <|
    cIf (tOrM (tNotM (cT (cN isiD [cArg .bw (cVar 5), cArg .bw (cK (.ty "bool"))]))) (cB (c2 neD (cVar 5) (cCall (call 15) [cArg .val (cVar 4)])))) (sRet (cK (.bl false))) (sNx))) <|
  sRet (cK (.bl true))
theorem b_law (call : Nat → FSem) : SSs Gp call c_law (defBody s_law) (m_law call) :=
  SSs.cons (SS.asg (i := 1) rfl rfl (SE.dic (SPP.cons SE.str (SE.var (i := 0) rfl rfl) (SPP.cons SE.str SE.int SPP.nil)) rfl rfl (by simp) (by decide) rfl)) <|
  SSs.cons (SS.asg (i := 2) rfl rfl SE.str) <|
  SSs.cons (SS.asg (i := 2) rfl rfl (SE.add (SE.var (i := 2) rfl rfl) SE.str)) <|
  SSs.cons (SS.asg (i := 3) rfl rfl (SE.add (SE.add (SE.split (SE.var (i := 2) rfl rfl)) (SE.fn (j := 0) (i := 7) rfl rfl (SA.cons .io (SE.var (i := 1) rfl rfl) SA.nil))) (SE.lst (SL.cons SE.str (SL.cons SE.str (SL.cons SE.str (SL.cons SE.str (SL.cons SE.str (SL.cons SE.str (SL.cons SE.str (SL.cons SE.str SL.nil))))))))))) <|
  SSs.cons (SS.asg (i := 3) rfl rfl (SE.add (SE.var (i := 3) rfl rfl) (SE.lst (SL.cons SE.str (SL.cons SE.str (SL.cons SE.non (SL.cons SE.int (SL.cons SE.bl (SL.cons (SE.tup SL.nil) (SL.cons (SE.lst SL.nil) (SL.cons SE.dic0 (SL.cons (SE.tup (SL.cons SE.str SL.nil)) (SL.cons (SE.lst (SL.cons SE.str SL.nil)) (SL.cons SE.str (SL.cons SE.str SL.nil))))))))))))))) <|
  SSs.cons (SS.for (SI.seq (SE.var (i := 3) rfl rfl)) (SG.name (i := 4) rfl rfl) (SSs.cons (SS.asg (i := 5) rfl rfl (SE.fn (j := 1) (i := 0) rfl rfl (SA.cons .val (SE.var (i := 4) rfl rfl) SA.nil))) <|
    SSs.one (SS.ite (ST.w (SW.or (ST.not (ST.truth (SE.isi (j := 3) (i := 1) rfl rfl (SA.cons .bw (SE.var (i := 5) rfl rfl) (SA.cons .bw (SE.ty (j := 2) (i := 5) rfl rfl bt_bool) SA.nil))))) (SW.or1 (ST.ne (SE.var (i := 5) rfl rfl) (SE.fn (j := 4) (i := 13) rfl rfl (SA.cons .val (SE.var (i := 4) rfl rfl) SA.nil)))))) (SSs.one (SS.ret SE.bl)) (SSs.nil)))) <|
  SSs.cons (SS.asg (i := 6) rfl rfl (SE.add (SE.fn0 (j := 5) (i := 16) rfl rfl) (SE.lc [("k", 7)] [false, true, false, false, false, false, false, true, false] [false, false, false, false, false, false, false, true, false] ["_law_odd"] (SI.range1 (j := 6) (i := 7) rfl rfl SE.int) (SG.name (i := 7) rfl rfl) (SE.fn (j := 0) (i := 10) rfl rfl (SA.cons .io (SE.var (i := 1) rfl rfl) (SA.cons .val (SE.tup SL.nil) SA.nil)))))) <|
  SSs.cons (SS.for (SI.range1 (j := 6) (i := 7) rfl rfl SE.int) (SG.name (i := 7) rfl rfl) (SSs.cons (SS.asg (i := 4) rfl rfl (SE.fn (j := 7) (i := 9) rfl rfl (SA.cons .io (SE.var (i := 1) rfl rfl) (SA.cons .val (SE.lst (SL.cons SE.str (SL.cons SE.str (SL.cons SE.str (SL.cons SE.str SL.nil))))) SA.nil)))) <|
    SSs.one (SS.for (SI.range1 (j := 6) (i := 7) rfl rfl SE.int) (SG.name (i := 8) rfl rfl) (SSs.cons (SS.expr (SE.append (i := 6) rfl rfl (SL.cons (SE.var (i := 4) rfl rfl) SL.nil))) <|
      SSs.one (SS.asg (i := 4) rfl rfl (SE.fn (j := 8) (i := 11) rfl rfl (SA.cons .io (SE.var (i := 1) rfl rfl) (SA.cons .val (SE.var (i := 4) rfl rfl) (SA.cons .val SE.int SA.nil))))))))) <|
  SSs.cons (SS.for (SI.seq (SE.var (i := 6) rfl rfl)) (SG.name (i := 4) rfl rfl) (SSs.cons (SS.asg (i := 5) rfl rfl (SE.fn (j := 9) (i := 4) rfl rfl (SA.cons .val (SE.var (i := 4) rfl rfl) SA.nil))) <|
    SSs.one (SS.ite (ST.w (SW.or (ST.not (ST.truth (SE.isi (j := 3) (i := 1) rfl rfl (SA.cons .bw (SE.var (i := 5) rfl rfl) (SA.cons .bw (SE.ty (j := 2) (i := 5) rfl rfl bt_bool) SA.nil))))) (SW.or1 (ST.ne (SE.var (i := 5) rfl rfl) (SE.fn (j := 10) (i := 15) rfl rfl (SA.cons .val (SE.var (i := 4) rfl rfl) SA.nil)))))) (SSs.one (SS.ret SE.bl)) (SSs.nil)))) <|
  SSs.one (SS.ret SE.bl)
theorem sc_law : FnScope c_law.N ["script"] (defScope s_law) := ⟨rfl, rfl, rfl, by decide +kernel, rfl, by decide +kernel, by decide +kernel⟩
/-! ### the table -/
def step (call : Nat → FSem) : Nat → FSem
  | 0 => runA 1 (c_is_name.N.length - 1) (m_is_name call)
  | 1 => runA 3 (c_is_number_to.N.length - 3) (m_is_number_to call)
  | 2 => runA 1 (c_is_value.N.length - 1) (m_is_value call)
  | 3 => runA 1 (c_parts_of_sum.N.length - 1) (m_parts_of_sum call)
  | 4 => runA 1 (c_is_sum.N.length - 1) (m_is_sum call)
  | 5 => runA 3 (c_law_draw.N.length - 3) (m_law_draw call)
  | 6 => runA 2 (c_law_pick.N.length - 2) (m_law_pick call)
  | 7 => runA 1 (c_law_names.N.length - 1) (m_law_names call)
  | 8 => runA 3 (c_law_sum_in.N.length - 3) (m_law_sum_in call)
  | 9 => runA 2 (c_law_sum.N.length - 2) (m_law_sum call)
  | 10 => runA 2 (c_law_odd.N.length - 2) (m_law_odd call)
  | 11 => runA 3 (c_law_bent.N.length - 3) (m_law_bent call)
  | 12 => runA 3 (c_law_whole.N.length - 3) (m_law_whole call)
  | 13 => runA 1 (c_law_is_name.N.length - 1) (m_law_is_name call)
  | 14 => runA 2 (c_law_sums_in.N.length - 2) (m_law_sums_in call)
  | 15 => runA 1 (c_law_is_sum.N.length - 1) (m_law_is_sum call)
  | 16 => runA 0 (c_law_bounds.N.length - 0) (m_law_bounds call)
  | 17 => runA 1 (c_law.N.length - 1) (m_law call)
  | _ => fun _ => .stuck
def fn : Nat → Nat → FSem
  | 0 => fun _ _ => .stuck
  | n + 1 => step (fn n)
/-- what the top has bound -/
structure Tb (K : PySem.W.Frag) (mg : Str → Option Value) : Prop where
  f0 : ∃ f fd, Fun K "is_name" "is_name" s_is_name f fd ∧ mg "is_name" = some (.ref f) ∧ Binds K fd ["thing"] []
  f1 : ∃ f fd, Fun K "is_number_to" "is_number_to" s_is_number_to f fd ∧ mg "is_number_to" = some (.ref f) ∧ Binds K fd ["thing", "least", "most"] []
  f2 : ∃ f fd, Fun K "is_value" "is_value" s_is_value f fd ∧ mg "is_value" = some (.ref f) ∧ Binds K fd ["thing"] []
  f3 : ∃ f fd, Fun K "parts_of_sum" "parts_of_sum" s_parts_of_sum f fd ∧ mg "parts_of_sum" = some (.ref f) ∧ Binds K fd ["thing"] []
  f4 : ∃ f fd, Fun K "is_sum" "is_sum" s_is_sum f fd ∧ mg "is_sum" = some (.ref f) ∧ Binds K fd ["thing"] []
  f5 : ∃ f fd, Fun K "_law_draw" "_law_draw" s_law_draw f fd ∧ mg "_law_draw" = some (.ref f) ∧ Binds K fd ["script", "k", "many"] []
  f6 : ∃ f fd, Fun K "_law_pick" "_law_pick" s_law_pick f fd ∧ mg "_law_pick" = some (.ref f) ∧ Binds K fd ["state", "many"] []
  f7 : ∃ f fd, Fun K "_law_names" "_law_names" s_law_names f fd ∧ mg "_law_names" = some (.ref f) ∧ Binds K fd ["state"] []
  f8 : ∃ f fd, Fun K "_law_sum_in" "_law_sum_in" s_law_sum_in f fd ∧ mg "_law_sum_in" = some (.ref f) ∧ Binds K fd ["state", "pockets", "deep"] []
  f9 : ∃ f fd, Fun K "_law_sum" "_law_sum" s_law_sum f fd ∧ mg "_law_sum" = some (.ref f) ∧ Binds K fd ["state", "pockets"] []
  f10 : ∃ f fd, Fun K "_law_odd" "_law_odd" s_law_odd f fd ∧ mg "_law_odd" = some (.ref f) ∧ Binds K fd ["state", "thing"] []
  f11 : ∃ f fd, Fun K "_law_bent" "_law_bent" s_law_bent f fd ∧ mg "_law_bent" = some (.ref f) ∧ Binds K fd ["state", "thing", "deep"] []
  f12 : ∃ f fd, Fun K "_law_whole" "_law_whole" s_law_whole f fd ∧ mg "_law_whole" = some (.ref f) ∧ Binds K fd ["thing", "least", "most"] []
  f13 : ∃ f fd, Fun K "_law_is_name" "_law_is_name" s_law_is_name f fd ∧ mg "_law_is_name" = some (.ref f) ∧ Binds K fd ["thing"] []
  f14 : ∃ f fd, Fun K "_law_sums_in" "_law_sums_in" s_law_sums_in f fd ∧ mg "_law_sums_in" = some (.ref f) ∧ Binds K fd ["thing", "deep"] []
  f15 : ∃ f fd, Fun K "_law_is_sum" "_law_is_sum" s_law_is_sum f fd ∧ mg "_law_is_sum" = some (.ref f) ∧ Binds K fd ["thing"] []
  f16 : ∃ f fd, Fun K "_law_bounds" "_law_bounds" s_law_bounds f fd ∧ mg "_law_bounds" = some (.ref f) ∧ Binds K fd [] []
  f17 : ∃ f fd, Fun K "law" "law" s_law f fd ∧ mg "law" = some (.ref f) ∧ Binds K fd ["script"] [] ∧ ∀ (s : Shared) (u : Value), BindsTo s fd ⟨[u], []⟩ [("script", u)]
  c0 : ∃ t : Tok, mg "LETTERS" = some (.str "abcdefghijklmnopqrstuvwxyz" t)
  c1 : ∃ t : Tok, mg "MOST_LETTERS" = some (.int 8 t)
  c2 : ∃ t : Tok, mg "MOST_VALUE" = some (.int 999 t)
  c3 : ∃ (a : Addr) (its : Array Value) (n : Nat) (sl : Array (Option Value)), mg "LANGUAGE" = some (.ref a) ∧ K.lookup a = some ⟨.type "tuple", none, .seq its n, sl⟩ ∧ strsV its.toList = some (["let", "leap", "get", "put", "take", "free", "send", "fetch", "say", "clock", "lot", "hear", "add", "sub", "mul", "less", "same", "not", "box", "lock", "lane", "door", "hand"] : List Str)
  c4 : ∃ (a : Addr) (its : Array Value) (n : Nat) (sl : Array (Option Value)), mg "TWO_PARTS" = some (.ref a) ∧ K.lookup a = some ⟨.type "tuple", none, .seq its n, sl⟩ ∧ strsV its.toList = some (["add", "sub", "mul", "less", "same"] : List Str)
  c5 : ∃ t : Tok, mg "MOST_SUMS" = some (.int 12 t)
  c6 : ∃ t : Tok, mg "MOST_DEEP" = some (.int 5 t)
  z0 : mg "str" = none
  z1 : mg "isinstance" = none
  z2 : mg "len" = none
  z3 : mg "all" = none
  z4 : mg "int" = none
  z5 : mg "bool" = none
  z6 : mg "tuple" = none
  z7 : mg "range" = none
  z8 : mg "list" = none
  z9 : mg "sum" = none
theorem Tb.fresh {K : PySem.W.Frag} {mg : Str → Option Value} (T : Tb K mg) : ∀ (i : Nat) (y : Str), Gp.blt[i]? = some y → mg y = none
  | 0, _, h => by cases h; exact T.z0
  | 1, _, h => by cases h; exact T.z1
  | 2, _, h => by cases h; exact T.z2
  | 3, _, h => by cases h; exact T.z3
  | 4, _, h => by cases h; exact T.z4
  | 5, _, h => by cases h; exact T.z5
  | 6, _, h => by cases h; exact T.z6
  | 7, _, h => by cases h; exact T.z7
  | 8, _, h => by cases h; exact T.z8
  | 9, _, h => by cases h; exact T.z9
  | _ + 10, _, h => nomatch h
theorem Tb.held {K : PySem.W.Frag} {mg : Str → Option Value} (T : Tb K mg) : ∀ (i : Nat) (y : Str) (d : D), Gp.cons[i]? = some (y, d) → ∃ u v, mg y = some u ∧ RelV v u ∧ ∀ F, Rep K F d v
  | 0, _, _, h => by cases h; obtain ⟨t, q⟩ := T.c0; exact ⟨_, V.str "abcdefghijklmnopqrstuvwxyz", q, ⟨t, rfl⟩, fun F => by rw [Rep]⟩
  | 1, _, _, h => by cases h; obtain ⟨t, q⟩ := T.c1; exact ⟨_, V.int 8, q, ⟨t, rfl⟩, fun F => by rw [Rep]⟩
  | 2, _, _, h => by cases h; obtain ⟨t, q⟩ := T.c2; exact ⟨_, V.int 999, q, ⟨t, rfl⟩, fun F => by rw [Rep]⟩
  | 3, _, _, h => by cases h; obtain ⟨a, its, n, sl, q1, q2, q3⟩ := T.c3; exact ⟨_, V.ref a, q1, rfl, mod_strs q2 q3 (by decide)⟩
  | 4, _, _, h => by cases h; obtain ⟨a, its, n, sl, q1, q2, q3⟩ := T.c4; exact ⟨_, V.ref a, q1, rfl, mod_strs q2 q3 (by decide)⟩
  | 5, _, _, h => by cases h; obtain ⟨t, q⟩ := T.c5; exact ⟨_, V.int 12, q, ⟨t, rfl⟩, fun F => by rw [Rep]⟩
  | 6, _, _, h => by cases h; obtain ⟨t, q⟩ := T.c6; exact ⟨_, V.int 5, q, ⟨t, rfl⟩, fun F => by rw [Rep]⟩
  | _ + 7, _, _, h => nomatch h
section
variable {P : Program} {w : World} {K : PySem.W.Frag} {mg : Str → Option Value} {base : Heap}
theorem ok_is_name {f : Addr} {fd : FuncData} {k : Nat} {call : Nat → FSem} (T : Tb K mg) (F : Fun K "is_name" "is_name" s_is_name f fd) (A : ∀ (i : Nat) (y : Str), Gp.names[i]? = some y → ∃ f' fd' ps', FnOk P w K mg base CX0 k f' fd' ps' (spF K (call i)) ∧ mg y = some (.ref f') ∧ PySem.W.keepIn K (.ref f') = true ∧ Binds K fd' ps' []) :
    FnOk P w K mg base CX0 (k + 1) f fd ["thing"] (spF K (step call 0)) := fn_okA F sc_is_name rfl (by decide +kernel) (by decide +kernel) (b_is_name call) rfl rfl A T.held T.fresh
theorem ok_is_number_to {f : Addr} {fd : FuncData} {k : Nat} {call : Nat → FSem} (T : Tb K mg) (F : Fun K "is_number_to" "is_number_to" s_is_number_to f fd) (A : ∀ (i : Nat) (y : Str), Gp.names[i]? = some y → ∃ f' fd' ps', FnOk P w K mg base CX0 k f' fd' ps' (spF K (call i)) ∧ mg y = some (.ref f') ∧ PySem.W.keepIn K (.ref f') = true ∧ Binds K fd' ps' []) :
    FnOk P w K mg base CX0 (k + 1) f fd ["thing", "least", "most"] (spF K (step call 1)) := fn_okA F sc_is_number_to rfl (by decide +kernel) (by decide +kernel) (b_is_number_to call) rfl rfl A T.held T.fresh
theorem ok_is_value {f : Addr} {fd : FuncData} {k : Nat} {call : Nat → FSem} (T : Tb K mg) (F : Fun K "is_value" "is_value" s_is_value f fd) (A : ∀ (i : Nat) (y : Str), Gp.names[i]? = some y → ∃ f' fd' ps', FnOk P w K mg base CX0 k f' fd' ps' (spF K (call i)) ∧ mg y = some (.ref f') ∧ PySem.W.keepIn K (.ref f') = true ∧ Binds K fd' ps' []) :
    FnOk P w K mg base CX0 (k + 1) f fd ["thing"] (spF K (step call 2)) := fn_okA F sc_is_value rfl (by decide +kernel) (by decide +kernel) (b_is_value call) rfl rfl A T.held T.fresh
theorem ok_parts_of_sum {f : Addr} {fd : FuncData} {k : Nat} {call : Nat → FSem} (T : Tb K mg) (F : Fun K "parts_of_sum" "parts_of_sum" s_parts_of_sum f fd) (A : ∀ (i : Nat) (y : Str), Gp.names[i]? = some y → ∃ f' fd' ps', FnOk P w K mg base CX0 k f' fd' ps' (spF K (call i)) ∧ mg y = some (.ref f') ∧ PySem.W.keepIn K (.ref f') = true ∧ Binds K fd' ps' []) :
    FnOk P w K mg base CX0 (k + 1) f fd ["thing"] (spF K (step call 3)) := fn_okA F sc_parts_of_sum rfl (by decide +kernel) (by decide +kernel) (b_parts_of_sum call) rfl rfl A T.held T.fresh
theorem ok_is_sum {f : Addr} {fd : FuncData} {k : Nat} {call : Nat → FSem} (T : Tb K mg) (F : Fun K "is_sum" "is_sum" s_is_sum f fd) (A : ∀ (i : Nat) (y : Str), Gp.names[i]? = some y → ∃ f' fd' ps', FnOk P w K mg base CX0 k f' fd' ps' (spF K (call i)) ∧ mg y = some (.ref f') ∧ PySem.W.keepIn K (.ref f') = true ∧ Binds K fd' ps' []) :
    FnOk P w K mg base CX0 (k + 1) f fd ["thing"] (spF K (step call 4)) := fn_okA F sc_is_sum rfl (by decide +kernel) (by decide +kernel) (b_is_sum call) rfl rfl A T.held T.fresh
theorem ok_law_draw {f : Addr} {fd : FuncData} {k : Nat} {call : Nat → FSem} (T : Tb K mg) (F : Fun K "_law_draw" "_law_draw" s_law_draw f fd) (A : ∀ (i : Nat) (y : Str), Gp.names[i]? = some y → ∃ f' fd' ps', FnOk P w K mg base CX0 k f' fd' ps' (spF K (call i)) ∧ mg y = some (.ref f') ∧ PySem.W.keepIn K (.ref f') = true ∧ Binds K fd' ps' []) :
    FnOk P w K mg base CX0 (k + 1) f fd ["script", "k", "many"] (spF K (step call 5)) := fn_okA F sc_law_draw rfl (by decide +kernel) (by decide +kernel) (b_law_draw call) rfl rfl A T.held T.fresh
theorem ok_law_pick {f : Addr} {fd : FuncData} {k : Nat} {call : Nat → FSem} (T : Tb K mg) (F : Fun K "_law_pick" "_law_pick" s_law_pick f fd) (A : ∀ (i : Nat) (y : Str), Gp.names[i]? = some y → ∃ f' fd' ps', FnOk P w K mg base CX0 k f' fd' ps' (spF K (call i)) ∧ mg y = some (.ref f') ∧ PySem.W.keepIn K (.ref f') = true ∧ Binds K fd' ps' []) :
    FnOk P w K mg base CX0 (k + 1) f fd ["state", "many"] (spF K (step call 6)) := fn_okA F sc_law_pick rfl (by decide +kernel) (by decide +kernel) (b_law_pick call) rfl rfl A T.held T.fresh
theorem ok_law_names {f : Addr} {fd : FuncData} {k : Nat} {call : Nat → FSem} (T : Tb K mg) (F : Fun K "_law_names" "_law_names" s_law_names f fd) (A : ∀ (i : Nat) (y : Str), Gp.names[i]? = some y → ∃ f' fd' ps', FnOk P w K mg base CX0 k f' fd' ps' (spF K (call i)) ∧ mg y = some (.ref f') ∧ PySem.W.keepIn K (.ref f') = true ∧ Binds K fd' ps' []) :
    FnOk P w K mg base CX0 (k + 1) f fd ["state"] (spF K (step call 7)) := fn_okA F sc_law_names rfl (by decide +kernel) (by decide +kernel) (b_law_names call) rfl rfl A T.held T.fresh
theorem ok_law_sum_in {f : Addr} {fd : FuncData} {k : Nat} {call : Nat → FSem} (T : Tb K mg) (F : Fun K "_law_sum_in" "_law_sum_in" s_law_sum_in f fd) (A : ∀ (i : Nat) (y : Str), Gp.names[i]? = some y → ∃ f' fd' ps', FnOk P w K mg base CX0 k f' fd' ps' (spF K (call i)) ∧ mg y = some (.ref f') ∧ PySem.W.keepIn K (.ref f') = true ∧ Binds K fd' ps' []) :
    FnOk P w K mg base CX0 (k + 1) f fd ["state", "pockets", "deep"] (spF K (step call 8)) := fn_okA F sc_law_sum_in rfl (by decide +kernel) (by decide +kernel) (b_law_sum_in call) rfl rfl A T.held T.fresh
theorem ok_law_sum {f : Addr} {fd : FuncData} {k : Nat} {call : Nat → FSem} (T : Tb K mg) (F : Fun K "_law_sum" "_law_sum" s_law_sum f fd) (A : ∀ (i : Nat) (y : Str), Gp.names[i]? = some y → ∃ f' fd' ps', FnOk P w K mg base CX0 k f' fd' ps' (spF K (call i)) ∧ mg y = some (.ref f') ∧ PySem.W.keepIn K (.ref f') = true ∧ Binds K fd' ps' []) :
    FnOk P w K mg base CX0 (k + 1) f fd ["state", "pockets"] (spF K (step call 9)) := fn_okA F sc_law_sum rfl (by decide +kernel) (by decide +kernel) (b_law_sum call) rfl rfl A T.held T.fresh
theorem ok_law_odd {f : Addr} {fd : FuncData} {k : Nat} {call : Nat → FSem} (T : Tb K mg) (F : Fun K "_law_odd" "_law_odd" s_law_odd f fd) (A : ∀ (i : Nat) (y : Str), Gp.names[i]? = some y → ∃ f' fd' ps', FnOk P w K mg base CX0 k f' fd' ps' (spF K (call i)) ∧ mg y = some (.ref f') ∧ PySem.W.keepIn K (.ref f') = true ∧ Binds K fd' ps' []) :
    FnOk P w K mg base CX0 (k + 1) f fd ["state", "thing"] (spF K (step call 10)) := fn_okA F sc_law_odd rfl (by decide +kernel) (by decide +kernel) (b_law_odd call) rfl rfl A T.held T.fresh
theorem ok_law_bent {f : Addr} {fd : FuncData} {k : Nat} {call : Nat → FSem} (T : Tb K mg) (F : Fun K "_law_bent" "_law_bent" s_law_bent f fd) (A : ∀ (i : Nat) (y : Str), Gp.names[i]? = some y → ∃ f' fd' ps', FnOk P w K mg base CX0 k f' fd' ps' (spF K (call i)) ∧ mg y = some (.ref f') ∧ PySem.W.keepIn K (.ref f') = true ∧ Binds K fd' ps' []) :
    FnOk P w K mg base CX0 (k + 1) f fd ["state", "thing", "deep"] (spF K (step call 11)) := fn_okA F sc_law_bent rfl (by decide +kernel) (by decide +kernel) (b_law_bent call) rfl rfl A T.held T.fresh
theorem ok_law_whole {f : Addr} {fd : FuncData} {k : Nat} {call : Nat → FSem} (T : Tb K mg) (F : Fun K "_law_whole" "_law_whole" s_law_whole f fd) (A : ∀ (i : Nat) (y : Str), Gp.names[i]? = some y → ∃ f' fd' ps', FnOk P w K mg base CX0 k f' fd' ps' (spF K (call i)) ∧ mg y = some (.ref f') ∧ PySem.W.keepIn K (.ref f') = true ∧ Binds K fd' ps' []) :
    FnOk P w K mg base CX0 (k + 1) f fd ["thing", "least", "most"] (spF K (step call 12)) := fn_okA F sc_law_whole rfl (by decide +kernel) (by decide +kernel) (b_law_whole call) rfl rfl A T.held T.fresh
theorem ok_law_is_name {f : Addr} {fd : FuncData} {k : Nat} {call : Nat → FSem} (T : Tb K mg) (F : Fun K "_law_is_name" "_law_is_name" s_law_is_name f fd) (A : ∀ (i : Nat) (y : Str), Gp.names[i]? = some y → ∃ f' fd' ps', FnOk P w K mg base CX0 k f' fd' ps' (spF K (call i)) ∧ mg y = some (.ref f') ∧ PySem.W.keepIn K (.ref f') = true ∧ Binds K fd' ps' []) :
    FnOk P w K mg base CX0 (k + 1) f fd ["thing"] (spF K (step call 13)) := fn_okA F sc_law_is_name rfl (by decide +kernel) (by decide +kernel) (b_law_is_name call) rfl rfl A T.held T.fresh
theorem ok_law_sums_in {f : Addr} {fd : FuncData} {k : Nat} {call : Nat → FSem} (T : Tb K mg) (F : Fun K "_law_sums_in" "_law_sums_in" s_law_sums_in f fd) (A : ∀ (i : Nat) (y : Str), Gp.names[i]? = some y → ∃ f' fd' ps', FnOk P w K mg base CX0 k f' fd' ps' (spF K (call i)) ∧ mg y = some (.ref f') ∧ PySem.W.keepIn K (.ref f') = true ∧ Binds K fd' ps' []) :
    FnOk P w K mg base CX0 (k + 1) f fd ["thing", "deep"] (spF K (step call 14)) := fn_okA F sc_law_sums_in rfl (by decide +kernel) (by decide +kernel) (b_law_sums_in call) rfl rfl A T.held T.fresh
theorem ok_law_is_sum {f : Addr} {fd : FuncData} {k : Nat} {call : Nat → FSem} (T : Tb K mg) (F : Fun K "_law_is_sum" "_law_is_sum" s_law_is_sum f fd) (A : ∀ (i : Nat) (y : Str), Gp.names[i]? = some y → ∃ f' fd' ps', FnOk P w K mg base CX0 k f' fd' ps' (spF K (call i)) ∧ mg y = some (.ref f') ∧ PySem.W.keepIn K (.ref f') = true ∧ Binds K fd' ps' []) :
    FnOk P w K mg base CX0 (k + 1) f fd ["thing"] (spF K (step call 15)) := fn_okA F sc_law_is_sum rfl (by decide +kernel) (by decide +kernel) (b_law_is_sum call) rfl rfl A T.held T.fresh
theorem ok_law_bounds {f : Addr} {fd : FuncData} {k : Nat} {call : Nat → FSem} (T : Tb K mg) (F : Fun K "_law_bounds" "_law_bounds" s_law_bounds f fd) (A : ∀ (i : Nat) (y : Str), Gp.names[i]? = some y → ∃ f' fd' ps', FnOk P w K mg base CX0 k f' fd' ps' (spF K (call i)) ∧ mg y = some (.ref f') ∧ PySem.W.keepIn K (.ref f') = true ∧ Binds K fd' ps' []) :
    FnOk P w K mg base CX0 (k + 1) f fd [] (spF K (step call 16)) := fn_okA F sc_law_bounds rfl (by decide +kernel) (by decide +kernel) (b_law_bounds call) rfl rfl A T.held T.fresh
theorem ok_law {f : Addr} {fd : FuncData} {k : Nat} {call : Nat → FSem} (T : Tb K mg) (F : Fun K "law" "law" s_law f fd) (A : ∀ (i : Nat) (y : Str), Gp.names[i]? = some y → ∃ f' fd' ps', FnOk P w K mg base CX0 k f' fd' ps' (spF K (call i)) ∧ mg y = some (.ref f') ∧ PySem.W.keepIn K (.ref f') = true ∧ Binds K fd' ps' []) :
    FnOk P w K mg base CX0 (k + 1) f fd ["script"] (spF K (step call 17)) := fn_okA F sc_law rfl (by decide +kernel) (by decide +kernel) (b_law call) rfl rfl A T.held T.fresh
theorem allOk (T : Tb K mg) : ∀ (n i : Nat) (y : Str), Gp.names[i]? = some y → ∃ f' fd' ps', FnOk P w K mg base CX0 n f' fd' ps' (spF K (fn n i)) ∧ mg y = some (.ref f') ∧ PySem.W.keepIn K (.ref f') = true ∧ Binds K fd' ps' []
  | 0, 0, _, h => by cases h; obtain ⟨f, fd, F, g, b⟩ := T.f0; exact ⟨f, fd, _, fn_zero, g, F.kp, b⟩
  | 0, 1, _, h => by cases h; obtain ⟨f, fd, F, g, b⟩ := T.f1; exact ⟨f, fd, _, fn_zero, g, F.kp, b⟩
  | 0, 2, _, h => by cases h; obtain ⟨f, fd, F, g, b⟩ := T.f2; exact ⟨f, fd, _, fn_zero, g, F.kp, b⟩
  | 0, 3, _, h => by cases h; obtain ⟨f, fd, F, g, b⟩ := T.f3; exact ⟨f, fd, _, fn_zero, g, F.kp, b⟩
  | 0, 4, _, h => by cases h; obtain ⟨f, fd, F, g, b⟩ := T.f4; exact ⟨f, fd, _, fn_zero, g, F.kp, b⟩
  | 0, 5, _, h => by cases h; obtain ⟨f, fd, F, g, b⟩ := T.f5; exact ⟨f, fd, _, fn_zero, g, F.kp, b⟩
  | 0, 6, _, h => by cases h; obtain ⟨f, fd, F, g, b⟩ := T.f6; exact ⟨f, fd, _, fn_zero, g, F.kp, b⟩
  | 0, 7, _, h => by cases h; obtain ⟨f, fd, F, g, b⟩ := T.f7; exact ⟨f, fd, _, fn_zero, g, F.kp, b⟩
  | 0, 8, _, h => by cases h; obtain ⟨f, fd, F, g, b⟩ := T.f8; exact ⟨f, fd, _, fn_zero, g, F.kp, b⟩
  | 0, 9, _, h => by cases h; obtain ⟨f, fd, F, g, b⟩ := T.f9; exact ⟨f, fd, _, fn_zero, g, F.kp, b⟩
  | 0, 10, _, h => by cases h; obtain ⟨f, fd, F, g, b⟩ := T.f10; exact ⟨f, fd, _, fn_zero, g, F.kp, b⟩
  | 0, 11, _, h => by cases h; obtain ⟨f, fd, F, g, b⟩ := T.f11; exact ⟨f, fd, _, fn_zero, g, F.kp, b⟩
  | 0, 12, _, h => by cases h; obtain ⟨f, fd, F, g, b⟩ := T.f12; exact ⟨f, fd, _, fn_zero, g, F.kp, b⟩
  | 0, 13, _, h => by cases h; obtain ⟨f, fd, F, g, b⟩ := T.f13; exact ⟨f, fd, _, fn_zero, g, F.kp, b⟩
  | 0, 14, _, h => by cases h; obtain ⟨f, fd, F, g, b⟩ := T.f14; exact ⟨f, fd, _, fn_zero, g, F.kp, b⟩
  | 0, 15, _, h => by cases h; obtain ⟨f, fd, F, g, b⟩ := T.f15; exact ⟨f, fd, _, fn_zero, g, F.kp, b⟩
  | 0, 16, _, h => by cases h; obtain ⟨f, fd, F, g, b⟩ := T.f16; exact ⟨f, fd, _, fn_zero, g, F.kp, b⟩
  | 0, 17, _, h => by cases h; obtain ⟨f, fd, F, g, b, _⟩ := T.f17; exact ⟨f, fd, _, fn_zero, g, F.kp, b⟩
  | n + 1, 0, _, h => by cases h; obtain ⟨f, fd, F, g, b⟩ := T.f0; exact ⟨f, fd, _, ok_is_name T F (allOk T n), g, F.kp, b⟩
  | n + 1, 1, _, h => by cases h; obtain ⟨f, fd, F, g, b⟩ := T.f1; exact ⟨f, fd, _, ok_is_number_to T F (allOk T n), g, F.kp, b⟩
  | n + 1, 2, _, h => by cases h; obtain ⟨f, fd, F, g, b⟩ := T.f2; exact ⟨f, fd, _, ok_is_value T F (allOk T n), g, F.kp, b⟩
  | n + 1, 3, _, h => by cases h; obtain ⟨f, fd, F, g, b⟩ := T.f3; exact ⟨f, fd, _, ok_parts_of_sum T F (allOk T n), g, F.kp, b⟩
  | n + 1, 4, _, h => by cases h; obtain ⟨f, fd, F, g, b⟩ := T.f4; exact ⟨f, fd, _, ok_is_sum T F (allOk T n), g, F.kp, b⟩
  | n + 1, 5, _, h => by cases h; obtain ⟨f, fd, F, g, b⟩ := T.f5; exact ⟨f, fd, _, ok_law_draw T F (allOk T n), g, F.kp, b⟩
  | n + 1, 6, _, h => by cases h; obtain ⟨f, fd, F, g, b⟩ := T.f6; exact ⟨f, fd, _, ok_law_pick T F (allOk T n), g, F.kp, b⟩
  | n + 1, 7, _, h => by cases h; obtain ⟨f, fd, F, g, b⟩ := T.f7; exact ⟨f, fd, _, ok_law_names T F (allOk T n), g, F.kp, b⟩
  | n + 1, 8, _, h => by cases h; obtain ⟨f, fd, F, g, b⟩ := T.f8; exact ⟨f, fd, _, ok_law_sum_in T F (allOk T n), g, F.kp, b⟩
  | n + 1, 9, _, h => by cases h; obtain ⟨f, fd, F, g, b⟩ := T.f9; exact ⟨f, fd, _, ok_law_sum T F (allOk T n), g, F.kp, b⟩
  | n + 1, 10, _, h => by cases h; obtain ⟨f, fd, F, g, b⟩ := T.f10; exact ⟨f, fd, _, ok_law_odd T F (allOk T n), g, F.kp, b⟩
  | n + 1, 11, _, h => by cases h; obtain ⟨f, fd, F, g, b⟩ := T.f11; exact ⟨f, fd, _, ok_law_bent T F (allOk T n), g, F.kp, b⟩
  | n + 1, 12, _, h => by cases h; obtain ⟨f, fd, F, g, b⟩ := T.f12; exact ⟨f, fd, _, ok_law_whole T F (allOk T n), g, F.kp, b⟩
  | n + 1, 13, _, h => by cases h; obtain ⟨f, fd, F, g, b⟩ := T.f13; exact ⟨f, fd, _, ok_law_is_name T F (allOk T n), g, F.kp, b⟩
  | n + 1, 14, _, h => by cases h; obtain ⟨f, fd, F, g, b⟩ := T.f14; exact ⟨f, fd, _, ok_law_sums_in T F (allOk T n), g, F.kp, b⟩
  | n + 1, 15, _, h => by cases h; obtain ⟨f, fd, F, g, b⟩ := T.f15; exact ⟨f, fd, _, ok_law_is_sum T F (allOk T n), g, F.kp, b⟩
  | n + 1, 16, _, h => by cases h; obtain ⟨f, fd, F, g, b⟩ := T.f16; exact ⟨f, fd, _, ok_law_bounds T F (allOk T n), g, F.kp, b⟩
  | n + 1, 17, _, h => by cases h; obtain ⟨f, fd, F, g, b, _⟩ := T.f17; exact ⟨f, fd, _, ok_law T F (allOk T n), g, F.kp, b⟩
  | _, _ + 18, _, h => nomatch h
end
theorem all_mk {l : PySem.W.OpenLaw} {w : World} {K : PySem.W.Frag} {h : Heap} {mg : Str → Option Value} {fa : Addr} (X : K.In h) (G : h.Ns mainGlobals mg) (hfa : mg "law" = some (.ref fa))
    (hlaw : ∀ ns : List Int, ns.length ≤ 63 → ∃ outs, fn 200 17 [.fz (.scr (ns.map D.int))] = .ok (.v (.bl true)) outs)
    {f0 : Addr} {od0 an0 : Option Addr} {sl0 : Array (Option Value)} {oc0 kV0 dc0 pm0 cd0 ct0 : Value}
    (a0 : PySem.W.nsIn K mainGlobals "is_name" = some (some (.ref f0))) (l0 : K.lookup f0 = some ⟨oc0, od0, .func (PySem.W.fnOf "is_name" "is_name" (defArgs s_is_name) (defBody s_is_name) (defScope s_is_name) .none kV0 dc0 pm0 an0 cd0 ct0), sl0⟩) (c0 : PySem.W.codeIn K cd0 "is_name" = true) (k0 : PySem.W.keepIn K (.ref f0) = true)
    {f1 : Addr} {od1 an1 : Option Addr} {sl1 : Array (Option Value)} {oc1 kV1 dc1 pm1 cd1 ct1 : Value}
    (a1 : PySem.W.nsIn K mainGlobals "is_number_to" = some (some (.ref f1))) (l1 : K.lookup f1 = some ⟨oc1, od1, .func (PySem.W.fnOf "is_number_to" "is_number_to" (defArgs s_is_number_to) (defBody s_is_number_to) (defScope s_is_number_to) .none kV1 dc1 pm1 an1 cd1 ct1), sl1⟩) (c1 : PySem.W.codeIn K cd1 "is_number_to" = true) (k1 : PySem.W.keepIn K (.ref f1) = true)
    {f2 : Addr} {od2 an2 : Option Addr} {sl2 : Array (Option Value)} {oc2 kV2 dc2 pm2 cd2 ct2 : Value}
    (a2 : PySem.W.nsIn K mainGlobals "is_value" = some (some (.ref f2))) (l2 : K.lookup f2 = some ⟨oc2, od2, .func (PySem.W.fnOf "is_value" "is_value" (defArgs s_is_value) (defBody s_is_value) (defScope s_is_value) .none kV2 dc2 pm2 an2 cd2 ct2), sl2⟩) (c2 : PySem.W.codeIn K cd2 "is_value" = true) (k2 : PySem.W.keepIn K (.ref f2) = true)
    {f3 : Addr} {od3 an3 : Option Addr} {sl3 : Array (Option Value)} {oc3 kV3 dc3 pm3 cd3 ct3 : Value}
    (a3 : PySem.W.nsIn K mainGlobals "parts_of_sum" = some (some (.ref f3))) (l3 : K.lookup f3 = some ⟨oc3, od3, .func (PySem.W.fnOf "parts_of_sum" "parts_of_sum" (defArgs s_parts_of_sum) (defBody s_parts_of_sum) (defScope s_parts_of_sum) .none kV3 dc3 pm3 an3 cd3 ct3), sl3⟩) (c3 : PySem.W.codeIn K cd3 "parts_of_sum" = true) (k3 : PySem.W.keepIn K (.ref f3) = true)
    {f4 : Addr} {od4 an4 : Option Addr} {sl4 : Array (Option Value)} {oc4 kV4 dc4 pm4 cd4 ct4 : Value}
    (a4 : PySem.W.nsIn K mainGlobals "is_sum" = some (some (.ref f4))) (l4 : K.lookup f4 = some ⟨oc4, od4, .func (PySem.W.fnOf "is_sum" "is_sum" (defArgs s_is_sum) (defBody s_is_sum) (defScope s_is_sum) .none kV4 dc4 pm4 an4 cd4 ct4), sl4⟩) (c4 : PySem.W.codeIn K cd4 "is_sum" = true) (k4 : PySem.W.keepIn K (.ref f4) = true)
    {f5 : Addr} {od5 an5 : Option Addr} {sl5 : Array (Option Value)} {oc5 kV5 dc5 pm5 cd5 ct5 : Value}
    (a5 : PySem.W.nsIn K mainGlobals "_law_draw" = some (some (.ref f5))) (l5 : K.lookup f5 = some ⟨oc5, od5, .func (PySem.W.fnOf "_law_draw" "_law_draw" (defArgs s_law_draw) (defBody s_law_draw) (defScope s_law_draw) .none kV5 dc5 pm5 an5 cd5 ct5), sl5⟩) (c5 : PySem.W.codeIn K cd5 "_law_draw" = true) (k5 : PySem.W.keepIn K (.ref f5) = true)
    {f6 : Addr} {od6 an6 : Option Addr} {sl6 : Array (Option Value)} {oc6 kV6 dc6 pm6 cd6 ct6 : Value}
    (a6 : PySem.W.nsIn K mainGlobals "_law_pick" = some (some (.ref f6))) (l6 : K.lookup f6 = some ⟨oc6, od6, .func (PySem.W.fnOf "_law_pick" "_law_pick" (defArgs s_law_pick) (defBody s_law_pick) (defScope s_law_pick) .none kV6 dc6 pm6 an6 cd6 ct6), sl6⟩) (c6 : PySem.W.codeIn K cd6 "_law_pick" = true) (k6 : PySem.W.keepIn K (.ref f6) = true)
    {f7 : Addr} {od7 an7 : Option Addr} {sl7 : Array (Option Value)} {oc7 kV7 dc7 pm7 cd7 ct7 : Value}
    (a7 : PySem.W.nsIn K mainGlobals "_law_names" = some (some (.ref f7))) (l7 : K.lookup f7 = some ⟨oc7, od7, .func (PySem.W.fnOf "_law_names" "_law_names" (defArgs s_law_names) (defBody s_law_names) (defScope s_law_names) .none kV7 dc7 pm7 an7 cd7 ct7), sl7⟩) (c7 : PySem.W.codeIn K cd7 "_law_names" = true) (k7 : PySem.W.keepIn K (.ref f7) = true)
    {f8 : Addr} {od8 an8 : Option Addr} {sl8 : Array (Option Value)} {oc8 kV8 dc8 pm8 cd8 ct8 : Value}
    (a8 : PySem.W.nsIn K mainGlobals "_law_sum_in" = some (some (.ref f8))) (l8 : K.lookup f8 = some ⟨oc8, od8, .func (PySem.W.fnOf "_law_sum_in" "_law_sum_in" (defArgs s_law_sum_in) (defBody s_law_sum_in) (defScope s_law_sum_in) .none kV8 dc8 pm8 an8 cd8 ct8), sl8⟩) (c8 : PySem.W.codeIn K cd8 "_law_sum_in" = true) (k8 : PySem.W.keepIn K (.ref f8) = true)
    {f9 : Addr} {od9 an9 : Option Addr} {sl9 : Array (Option Value)} {oc9 kV9 dc9 pm9 cd9 ct9 : Value}
    (a9 : PySem.W.nsIn K mainGlobals "_law_sum" = some (some (.ref f9))) (l9 : K.lookup f9 = some ⟨oc9, od9, .func (PySem.W.fnOf "_law_sum" "_law_sum" (defArgs s_law_sum) (defBody s_law_sum) (defScope s_law_sum) .none kV9 dc9 pm9 an9 cd9 ct9), sl9⟩) (c9 : PySem.W.codeIn K cd9 "_law_sum" = true) (k9 : PySem.W.keepIn K (.ref f9) = true)
    {f10 : Addr} {od10 an10 : Option Addr} {sl10 : Array (Option Value)} {oc10 kV10 dc10 pm10 cd10 ct10 : Value}
    (a10 : PySem.W.nsIn K mainGlobals "_law_odd" = some (some (.ref f10))) (l10 : K.lookup f10 = some ⟨oc10, od10, .func (PySem.W.fnOf "_law_odd" "_law_odd" (defArgs s_law_odd) (defBody s_law_odd) (defScope s_law_odd) .none kV10 dc10 pm10 an10 cd10 ct10), sl10⟩) (c10 : PySem.W.codeIn K cd10 "_law_odd" = true) (k10 : PySem.W.keepIn K (.ref f10) = true)
    {f11 : Addr} {od11 an11 : Option Addr} {sl11 : Array (Option Value)} {oc11 kV11 dc11 pm11 cd11 ct11 : Value}
    (a11 : PySem.W.nsIn K mainGlobals "_law_bent" = some (some (.ref f11))) (l11 : K.lookup f11 = some ⟨oc11, od11, .func (PySem.W.fnOf "_law_bent" "_law_bent" (defArgs s_law_bent) (defBody s_law_bent) (defScope s_law_bent) .none kV11 dc11 pm11 an11 cd11 ct11), sl11⟩) (c11 : PySem.W.codeIn K cd11 "_law_bent" = true) (k11 : PySem.W.keepIn K (.ref f11) = true)
    {f12 : Addr} {od12 an12 : Option Addr} {sl12 : Array (Option Value)} {oc12 kV12 dc12 pm12 cd12 ct12 : Value}
    (a12 : PySem.W.nsIn K mainGlobals "_law_whole" = some (some (.ref f12))) (l12 : K.lookup f12 = some ⟨oc12, od12, .func (PySem.W.fnOf "_law_whole" "_law_whole" (defArgs s_law_whole) (defBody s_law_whole) (defScope s_law_whole) .none kV12 dc12 pm12 an12 cd12 ct12), sl12⟩) (c12 : PySem.W.codeIn K cd12 "_law_whole" = true) (k12 : PySem.W.keepIn K (.ref f12) = true)
    {f13 : Addr} {od13 an13 : Option Addr} {sl13 : Array (Option Value)} {oc13 kV13 dc13 pm13 cd13 ct13 : Value}
    (a13 : PySem.W.nsIn K mainGlobals "_law_is_name" = some (some (.ref f13))) (l13 : K.lookup f13 = some ⟨oc13, od13, .func (PySem.W.fnOf "_law_is_name" "_law_is_name" (defArgs s_law_is_name) (defBody s_law_is_name) (defScope s_law_is_name) .none kV13 dc13 pm13 an13 cd13 ct13), sl13⟩) (c13 : PySem.W.codeIn K cd13 "_law_is_name" = true) (k13 : PySem.W.keepIn K (.ref f13) = true)
    {f14 : Addr} {od14 an14 : Option Addr} {sl14 : Array (Option Value)} {oc14 kV14 dc14 pm14 cd14 ct14 : Value}
    (a14 : PySem.W.nsIn K mainGlobals "_law_sums_in" = some (some (.ref f14))) (l14 : K.lookup f14 = some ⟨oc14, od14, .func (PySem.W.fnOf "_law_sums_in" "_law_sums_in" (defArgs s_law_sums_in) (defBody s_law_sums_in) (defScope s_law_sums_in) .none kV14 dc14 pm14 an14 cd14 ct14), sl14⟩) (c14 : PySem.W.codeIn K cd14 "_law_sums_in" = true) (k14 : PySem.W.keepIn K (.ref f14) = true)
    {f15 : Addr} {od15 an15 : Option Addr} {sl15 : Array (Option Value)} {oc15 kV15 dc15 pm15 cd15 ct15 : Value}
    (a15 : PySem.W.nsIn K mainGlobals "_law_is_sum" = some (some (.ref f15))) (l15 : K.lookup f15 = some ⟨oc15, od15, .func (PySem.W.fnOf "_law_is_sum" "_law_is_sum" (defArgs s_law_is_sum) (defBody s_law_is_sum) (defScope s_law_is_sum) .none kV15 dc15 pm15 an15 cd15 ct15), sl15⟩) (c15 : PySem.W.codeIn K cd15 "_law_is_sum" = true) (k15 : PySem.W.keepIn K (.ref f15) = true)
    {f16 : Addr} {od16 an16 : Option Addr} {sl16 : Array (Option Value)} {oc16 kV16 dc16 pm16 cd16 ct16 : Value}
    (a16 : PySem.W.nsIn K mainGlobals "_law_bounds" = some (some (.ref f16))) (l16 : K.lookup f16 = some ⟨oc16, od16, .func (PySem.W.fnOf "_law_bounds" "_law_bounds" (defArgs s_law_bounds) (defBody s_law_bounds) (defScope s_law_bounds) .none kV16 dc16 pm16 an16 cd16 ct16), sl16⟩) (c16 : PySem.W.codeIn K cd16 "_law_bounds" = true) (k16 : PySem.W.keepIn K (.ref f16) = true)
    {f17 : Addr} {od17 an17 : Option Addr} {sl17 : Array (Option Value)} {oc17 kV17 dc17 pm17 cd17 ct17 : Value}
    (a17 : PySem.W.nsIn K mainGlobals "law" = some (some (.ref f17))) (l17 : K.lookup f17 = some ⟨oc17, od17, .func (PySem.W.fnOf "law" "law" (defArgs s_law) (defBody s_law) (defScope s_law) .none kV17 dc17 pm17 an17 cd17 ct17), sl17⟩) (c17 : PySem.W.codeIn K cd17 "law" = true) (k17 : PySem.W.keepIn K (.ref f17) = true)
    {t0 : Tok} (e0 : PySem.W.nsIn K mainGlobals "LETTERS" = some (some (.str "abcdefghijklmnopqrstuvwxyz" t0)))
    {t1 : Tok} (e1 : PySem.W.nsIn K mainGlobals "MOST_LETTERS" = some (some (.int 8 t1)))
    {t2 : Tok} (e2 : PySem.W.nsIn K mainGlobals "MOST_VALUE" = some (some (.int 999 t2)))
    {ad3 : Addr} {its3 : Array Value} {nn3 : Nat} {sn3 : Array (Option Value)} (e3 : PySem.W.nsIn K mainGlobals "LANGUAGE" = some (some (.ref ad3))) (u3 : K.lookup ad3 = some ⟨.type "tuple", none, .seq its3 nn3, sn3⟩) (w3 : strsV its3.toList = some (["let", "leap", "get", "put", "take", "free", "send", "fetch", "say", "clock", "lot", "hear", "add", "sub", "mul", "less", "same", "not", "box", "lock", "lane", "door", "hand"] : List Str))
    {ad4 : Addr} {its4 : Array Value} {nn4 : Nat} {sn4 : Array (Option Value)} (e4 : PySem.W.nsIn K mainGlobals "TWO_PARTS" = some (some (.ref ad4))) (u4 : K.lookup ad4 = some ⟨.type "tuple", none, .seq its4 nn4, sn4⟩) (w4 : strsV its4.toList = some (["add", "sub", "mul", "less", "same"] : List Str))
    {t5 : Tok} (e5 : PySem.W.nsIn K mainGlobals "MOST_SUMS" = some (some (.int 12 t5)))
    {t6 : Tok} (e6 : PySem.W.nsIn K mainGlobals "MOST_DEEP" = some (some (.int 5 t6)))
    (z0 : PySem.W.nsIn K mainGlobals "str" = some none)
    (z1 : PySem.W.nsIn K mainGlobals "isinstance" = some none)
    (z2 : PySem.W.nsIn K mainGlobals "len" = some none)
    (z3 : PySem.W.nsIn K mainGlobals "all" = some none)
    (z4 : PySem.W.nsIn K mainGlobals "int" = some none)
    (z5 : PySem.W.nsIn K mainGlobals "bool" = some none)
    (z6 : PySem.W.nsIn K mainGlobals "tuple" = some none)
    (z7 : PySem.W.nsIn K mainGlobals "range" = some none)
    (z8 : PySem.W.nsIn K mainGlobals "list" = some none)
    (z9 : PySem.W.nsIn K mainGlobals "sum" = some none)
    : ∃ fd : FuncData, (∀ (s : Shared) (v : Value), BindsTo s fd ⟨[v], []⟩ [("script", v)]) ∧ ∀ base : Heap, K.In base → base.Ns mainGlobals mg → FnOk l.prog w K mg base CX0 200 fa fd ["script"] (spLaw K) := by
  have T : Tb K mg := ⟨
    ⟨_, _, fun_mk (st := s_is_name) l0 c0 k0, PySem.W.mg_of X G a0, (fun_mk (st := s_is_name) l0 c0 k0).binds (ps := ["thing"]) fun _ _ _ _ _ _ us hl => match us, hl with | [_], _ => rfl⟩,
    ⟨_, _, fun_mk (st := s_is_number_to) l1 c1 k1, PySem.W.mg_of X G a1, (fun_mk (st := s_is_number_to) l1 c1 k1).binds (ps := ["thing", "least", "most"]) fun _ _ _ _ _ _ us hl => match us, hl with | [_, _, _], _ => rfl⟩,
    ⟨_, _, fun_mk (st := s_is_value) l2 c2 k2, PySem.W.mg_of X G a2, (fun_mk (st := s_is_value) l2 c2 k2).binds (ps := ["thing"]) fun _ _ _ _ _ _ us hl => match us, hl with | [_], _ => rfl⟩,
    ⟨_, _, fun_mk (st := s_parts_of_sum) l3 c3 k3, PySem.W.mg_of X G a3, (fun_mk (st := s_parts_of_sum) l3 c3 k3).binds (ps := ["thing"]) fun _ _ _ _ _ _ us hl => match us, hl with | [_], _ => rfl⟩,
    ⟨_, _, fun_mk (st := s_is_sum) l4 c4 k4, PySem.W.mg_of X G a4, (fun_mk (st := s_is_sum) l4 c4 k4).binds (ps := ["thing"]) fun _ _ _ _ _ _ us hl => match us, hl with | [_], _ => rfl⟩,
    ⟨_, _, fun_mk (st := s_law_draw) l5 c5 k5, PySem.W.mg_of X G a5, (fun_mk (st := s_law_draw) l5 c5 k5).binds (ps := ["script", "k", "many"]) fun _ _ _ _ _ _ us hl => match us, hl with | [_, _, _], _ => rfl⟩,
    ⟨_, _, fun_mk (st := s_law_pick) l6 c6 k6, PySem.W.mg_of X G a6, (fun_mk (st := s_law_pick) l6 c6 k6).binds (ps := ["state", "many"]) fun _ _ _ _ _ _ us hl => match us, hl with | [_, _], _ => rfl⟩,
    ⟨_, _, fun_mk (st := s_law_names) l7 c7 k7, PySem.W.mg_of X G a7, (fun_mk (st := s_law_names) l7 c7 k7).binds (ps := ["state"]) fun _ _ _ _ _ _ us hl => match us, hl with | [_], _ => rfl⟩,
    ⟨_, _, fun_mk (st := s_law_sum_in) l8 c8 k8, PySem.W.mg_of X G a8, (fun_mk (st := s_law_sum_in) l8 c8 k8).binds (ps := ["state", "pockets", "deep"]) fun _ _ _ _ _ _ us hl => match us, hl with | [_, _, _], _ => rfl⟩,
    ⟨_, _, fun_mk (st := s_law_sum) l9 c9 k9, PySem.W.mg_of X G a9, (fun_mk (st := s_law_sum) l9 c9 k9).binds (ps := ["state", "pockets"]) fun _ _ _ _ _ _ us hl => match us, hl with | [_, _], _ => rfl⟩,
    ⟨_, _, fun_mk (st := s_law_odd) l10 c10 k10, PySem.W.mg_of X G a10, (fun_mk (st := s_law_odd) l10 c10 k10).binds (ps := ["state", "thing"]) fun _ _ _ _ _ _ us hl => match us, hl with | [_, _], _ => rfl⟩,
    ⟨_, _, fun_mk (st := s_law_bent) l11 c11 k11, PySem.W.mg_of X G a11, (fun_mk (st := s_law_bent) l11 c11 k11).binds (ps := ["state", "thing", "deep"]) fun _ _ _ _ _ _ us hl => match us, hl with | [_, _, _], _ => rfl⟩,
    ⟨_, _, fun_mk (st := s_law_whole) l12 c12 k12, PySem.W.mg_of X G a12, (fun_mk (st := s_law_whole) l12 c12 k12).binds (ps := ["thing", "least", "most"]) fun _ _ _ _ _ _ us hl => match us, hl with | [_, _, _], _ => rfl⟩,
    ⟨_, _, fun_mk (st := s_law_is_name) l13 c13 k13, PySem.W.mg_of X G a13, (fun_mk (st := s_law_is_name) l13 c13 k13).binds (ps := ["thing"]) fun _ _ _ _ _ _ us hl => match us, hl with | [_], _ => rfl⟩,
    ⟨_, _, fun_mk (st := s_law_sums_in) l14 c14 k14, PySem.W.mg_of X G a14, (fun_mk (st := s_law_sums_in) l14 c14 k14).binds (ps := ["thing", "deep"]) fun _ _ _ _ _ _ us hl => match us, hl with | [_, _], _ => rfl⟩,
    ⟨_, _, fun_mk (st := s_law_is_sum) l15 c15 k15, PySem.W.mg_of X G a15, (fun_mk (st := s_law_is_sum) l15 c15 k15).binds (ps := ["thing"]) fun _ _ _ _ _ _ us hl => match us, hl with | [_], _ => rfl⟩,
    ⟨_, _, fun_mk (st := s_law_bounds) l16 c16 k16, PySem.W.mg_of X G a16, (fun_mk (st := s_law_bounds) l16 c16 k16).binds (ps := []) fun _ _ _ _ _ _ us hl => match us, hl with | [], _ => rfl⟩,
    ⟨_, _, fun_mk (st := s_law) l17 c17 k17, PySem.W.mg_of X G a17, ((fun_mk (st := s_law) l17 c17 k17).binds (ps := ["script"]) fun _ _ _ _ _ _ us hl => match us, hl with | [_], _ => rfl), fun s v => .of_eq rfl⟩,
    ⟨t0, PySem.W.mg_of X G e0⟩,
    ⟨t1, PySem.W.mg_of X G e1⟩,
    ⟨t2, PySem.W.mg_of X G e2⟩,
    ⟨ad3, its3, nn3, sn3, PySem.W.mg_of X G e3, u3, w3⟩,
    ⟨ad4, its4, nn4, sn4, PySem.W.mg_of X G e4, u4, w4⟩,
    ⟨t5, PySem.W.mg_of X G e5⟩,
    ⟨t6, PySem.W.mg_of X G e6⟩,
    PySem.W.mg_none_of X G z0,
    PySem.W.mg_none_of X G z1,
    PySem.W.mg_none_of X G z2,
    PySem.W.mg_none_of X G z3,
    PySem.W.mg_none_of X G z4,
    PySem.W.mg_none_of X G z5,
    PySem.W.mg_none_of X G z6,
    PySem.W.mg_none_of X G z7,
    PySem.W.mg_none_of X G z8,
    PySem.W.mg_none_of X G z9⟩
  obtain ⟨f, fd, F, g, b, c⟩ := T.f17
  rw [hfa] at g; cases g
  exact ⟨fd, c, fun base _ _ => (ok_law (k := 199) T F (allOk T 199)).imp (spLaw_of hlaw)⟩
theorem walk {l : PySem.W.OpenLaw} {q : Program} {loose : List Str} {XP : (Str → Option Value) → Heap → Prop} {YP : World → Heap → Prop} {d : DefRec} {K : Params → PySem.W.Frag} (hn : l.most = some 63) (hdf : d.params.defaults = [])
    (hY : ∀ (w : World) (h : Heap), YP w h → (K w.params).In h)
    (F : ∀ (w : World) (mg : Str → Option Value) (fa : Addr) (h : Heap), (K w.params).In h → h.Ns mainGlobals mg → mg d.name = some (.ref fa) →
      ∃ fd : FuncData, (∀ (s : Shared) (u : Value), BindsTo s fd ⟨[u], []⟩ [("script", u)]) ∧ ∀ base : Heap, (K w.params).In base → base.Ns mainGlobals mg → FnOk l.prog w (K w.params) mg base CX0 200 fa fd ["script"] (spLaw (K w.params))) :
    PySem.W.WalkO q loose XP YP l.row.toRowW d [] (fun f vs => PySem.call f vs) :=
  L2.walk_of (n := 63) (k := 200) (x := "script") (CX := fun _ => CX0) (sp := fun w => spLaw (K w.params)) hn (by decide) hdf ⟨rfl, by decide, by decide⟩ hY F (fun _ _ a ns hl _ hS => ⟨a, ns, rfl, hS, hl, fun _ => rfl⟩) fun _ _ _ _ _ z => z
end K01

namespace K01
open PySem PySem.Spec L2 PyProof.Rows PV
theorem fn_succ (n i : Nat) : fn (n + 1) i = step (fn n) i := rfl
/-! ### draws -/
def scD (ns : List Int) : D := .scr (ns.map D.int)
theorem draw_spec (ns : List Int) (hl : ns.length ≤ 63) (k many : Int) (hk : 0 ≤ k) (hk2 : k < 2 ^ 40) (hm : 0 < many) : ∃ r, 0 ≤ r ∧ r < many ∧ ∀ n, fn (n + 1) 5 [.fz (scD ns), .fz (.int k), .fz (.int many)] = .ok (.v (.int r)) [none, none, none] := by
  -- the cell
  have hcell : ∃ c : Int, ∀ e : En, e[0]? = some (.fz (scD ns)) → e[1]? = some (.fz (.int k)) → cIf (cB (c2 gtD (cN lenD [cArg .bw (cVar 0)]) (cK (.int 0)))) (c2 ixD (cVar 0) (c2 modD (cVar 1) (cN lenD [cArg .bw (cVar 0)]))) (cK (.int 0)) e = .ok (.v (.int c)) e := by
    cases ns with
    | nil =>
      refine ⟨0, fun e h0 h1 => ?_⟩
      simp only [ob_ok, ob_stuck, ob_exc, ap_ret, ap_fail, ap_bnd, ap_var, var_fz, var_ow, var_io, var_bw, ap_K, ap_op, op_v, op_o, op_s, ap_val, take_v, take_o, take_s, takeS_fz, takeS_ow, view_v, view_o, view_s, viewS_fz, viewS_ow, viewS_io, viewS_bw, val_lst, val_dic, val_dit, sr_d, sr_nt, sr_ob, sr_no, ap_c1, c1k_some, ap_c2, c2k_some, arg_valm, arg_bwm, arg_iom, bwK_v, bwK_s, ioK_v, ioK_s, sq_nil, sq_cons, ap_cN, cNk_some, vs_nil, vs_cons, vsk_some, av_d, av_s, av_io, ar_nil, ar_cons, ark_some, arg_d, arg_s, arg_i, argS_fz, argS_ow, argS_io, argS_bw, argI_fz, argI_ow, argI_io, df_nil, df_d, df_s, df_io, ix_d, ix_s, ix_io, ap_call, callK_some, callD_true, callR_ok, rt_v, rt_o, ue_nil, ue_cons, uek_none, uek_ow, uek_io, of_nil, of_d, of_s, of_none, of_io, ap_B, br_v, ap_T, tru_non, tru_bl, tru_int, tru_tup, tru_lst, tru_scr, tru_dic, ap_not, notB_ok, ap_if, iteB_true, iteB_false, ap_and, ap_or, ap_andV, ap_orV, ap_notV, ap_seq, seqB_nx, seqB_rt, seqB_bk, seqB_ct, ap_nx, ap_bk, ap_ct, ap_sret, ap_sretN, ap_expr, ap_asg, asg_at, asg_vu, asg_vf, asg_vo, asg_ou, asg_of, asg_oo, asg_su, asg_sf, asg_so, asgJ_ow, asgJ_fz, ap_tgN, tgS_un, tgS_fz, tgS_ow, ap_tgNil, ap_tgCons, ap_asgT, ap_cSeq, sq_lst, sq_scr, sq_str, sq_tup, ap_rg1, ap_rg2, ap_for, for_nil, for_cons, forK_nx, forK_ct, forK_bk, forK_rt, tk_nil, tk_cons, ap_tup, ap_lst, ap_dic0, pm_nil, pm_cons, ap_dic, dicK_ok, ap_sl, slK_v, part_none, ap_kind, kd_dic, ap_get2, g2K_some, ap_get1, g1K_some, ap_oa, oa_ow, oa_io, ap_ot, ot_lst, ot_lstI, ot_dic, ot_dicI, ap_wr, wr_ow, wr_io, wrO_some, wrI_some, ap_set, ap_mut, run_F, runK_ok, fin_at, fin_nx, fin_v, fin_o, fin_s, finS_ow, finS_fz, outs_nil, outs_fz, outs_bw, outs_io, en_at, slot_fz, slot_io, slot_bw, dv_add, dv_sub, dv_neg, dv_eqI, dv_eqS, dv_eqB, dv_neI, dv_neS, dv_neB, dv_lt, dv_le, dv_gt, dv_ge, ixk_some, dv_ixT, dv_ixL, dv_ixR, dv_ixDS, dv_ixDI, dv_slT, dv_slL, dv_slR, dv_lenT, dv_lenL, dv_lenR, dv_lenD, dv_intI, dv_intB, dv_abs, dv_min, dv_max, dv_listT, dv_listL, dv_listR, dv_tupT, dv_tupL, dv_tupR, dv_get2S, dv_get2I, dv_dictD, at0, at1, at2, at3, at4, at5, ap_comp, optC_some, optC_none, cl_nil, cl_cons, wb_nil, wb_cons, wbS_un, wbS_fz, wp_nil, wp_cons, bk_nil, bk_cons, bkS_some, condK_true, condK_false, ap_turn, turnW_true, turnK_ok, ap_yes, ap_part, intK_int, nb_none, nb_some, slK_s, slV_some, pin_un, pin_fz, pin_ow, dv_isiII, dv_isiIB, ap_isi2, isi2K_at, isi2T_some, isi2B_some, ap_chain, chK_some, chS_true, chS_false, inS_some, notInS_some, dv_in, dv_notIn, inB_strsT, inB_strsL, inB_dic, inB_T1, inB_T2, inB_T3, dv_all, dv_any, ty_non, ty_bl, ty_int, ty_str, ty_tup, ty_lst, ty_dic, dv_isi, isiT_some, isiK_some, kb_nn, kb_nb, kb_ns, kb_nt, kb_nl, kb_bi, kb_bb, kb_bs, kb_bt, kb_bl, kb_ii, kb_ib, kb_is, kb_it, kb_il, kb_si, kb_sb, kb_ss, kb_st, kb_sl, kb_ti, kb_tb, kb_ts, kb_tt, kb_tl, kb_li, kb_lb, kb_ls, kb_lt, kb_ll, kb_di, kb_db, kb_ds, kb_dt, kb_dl, i2_n, i2_b, i2_i, i2_s, i2_t, i2_l, List.map_cons, List.map_nil, List.cons_append, List.nil_append, List.replicate_succ, List.replicate_zero, List.append_nil, List.length_cons, List.length_nil, List.getElem?_cons_zero, List.getElem?_cons_succ, List.set_cons_zero, List.set_cons_succ, List.all_cons, List.all_nil, Option.map_some, ↓reduceIte, Nat.reduceAdd, Nat.reduceSub, Nat.reduceEqDiff, Bool.and_true, Bool.true_and, Bool.and_false, Bool.false_and, Bool.not_true, Bool.not_false, Bool.or_false, Bool.or_true, Bool.false_or, Bool.true_or, decide_true, decide_false, eq_self, String.reduceEq, Int.reduceEq, Int.reduceLT, Int.reduceLE, run_A, tupK_ok, lstK_ok, compK_ok, ap_tgT_tup, ap_tgT_pr, ap_tgT_lst, sizeLine_eq, Nat.reduceLeDiff, Nat.reduceLT, str_eq, Int.reducePow, Nat.reducePow, Int.reduceToNat, Int.reduceNeg, Int.cast_ofNat_Int, Nat.reduceBNe, scD, h0, h1, Int.natCast_zero, Int.lt_irrefl]
    | cons a l =>
      have hp : 0 < ((l.length : Int) + 1) := by omega
      have h2 : k % ((l.length : Int) + 1) < (l.length : Int) + 1 := Int.emod_lt_of_pos k hp
      have h1 : 0 ≤ k % ((l.length : Int) + 1) := Int.emod_nonneg k (by omega)
      have hi : (k % ((l.length : Int) + 1)).toNat < (a :: l).length := by simp only [List.length_cons]; omega
      refine ⟨(a :: l)[(k % ((l.length : Int) + 1)).toNat], fun e h0 h1' => ?_⟩
      have hat : atI ((a :: l).map D.int) (k % ((l.length : Int) + 1)) = some (.int ((a :: l)[(k % ((l.length : Int) + 1)).toNat])) := at_of h1 (by rw [List.getElem?_map, List.getElem?_eq_getElem hi]; rfl)
      simp only [List.map_cons] at hat
      simp only [ob_ok, ob_stuck, ob_exc, ap_ret, ap_fail, ap_bnd, ap_var, var_fz, var_ow, var_io, var_bw, ap_K, ap_op, op_v, op_o, op_s, ap_val, take_v, take_o, take_s, takeS_fz, takeS_ow, view_v, view_o, view_s, viewS_fz, viewS_ow, viewS_io, viewS_bw, val_lst, val_dic, val_dit, sr_d, sr_nt, sr_ob, sr_no, ap_c1, c1k_some, ap_c2, c2k_some, arg_valm, arg_bwm, arg_iom, bwK_v, bwK_s, ioK_v, ioK_s, sq_nil, sq_cons, ap_cN, cNk_some, vs_nil, vs_cons, vsk_some, av_d, av_s, av_io, ar_nil, ar_cons, ark_some, arg_d, arg_s, arg_i, argS_fz, argS_ow, argS_io, argS_bw, argI_fz, argI_ow, argI_io, df_nil, df_d, df_s, df_io, ix_d, ix_s, ix_io, ap_call, callK_some, callD_true, callR_ok, rt_v, rt_o, ue_nil, ue_cons, uek_none, uek_ow, uek_io, of_nil, of_d, of_s, of_none, of_io, ap_B, br_v, ap_T, tru_non, tru_bl, tru_int, tru_tup, tru_lst, tru_scr, tru_dic, ap_not, notB_ok, ap_if, iteB_true, iteB_false, ap_and, ap_or, ap_andV, ap_orV, ap_notV, ap_seq, seqB_nx, seqB_rt, seqB_bk, seqB_ct, ap_nx, ap_bk, ap_ct, ap_sret, ap_sretN, ap_expr, ap_asg, asg_at, asg_vu, asg_vf, asg_vo, asg_ou, asg_of, asg_oo, asg_su, asg_sf, asg_so, asgJ_ow, asgJ_fz, ap_tgN, tgS_un, tgS_fz, tgS_ow, ap_tgNil, ap_tgCons, ap_asgT, ap_cSeq, sq_lst, sq_scr, sq_str, sq_tup, ap_rg1, ap_rg2, ap_for, for_nil, for_cons, forK_nx, forK_ct, forK_bk, forK_rt, tk_nil, tk_cons, ap_tup, ap_lst, ap_dic0, pm_nil, pm_cons, ap_dic, dicK_ok, ap_sl, slK_v, part_none, ap_kind, kd_dic, ap_get2, g2K_some, ap_get1, g1K_some, ap_oa, oa_ow, oa_io, ap_ot, ot_lst, ot_lstI, ot_dic, ot_dicI, ap_wr, wr_ow, wr_io, wrO_some, wrI_some, ap_set, ap_mut, run_F, runK_ok, fin_at, fin_nx, fin_v, fin_o, fin_s, finS_ow, finS_fz, outs_nil, outs_fz, outs_bw, outs_io, en_at, slot_fz, slot_io, slot_bw, dv_add, dv_sub, dv_neg, dv_eqI, dv_eqS, dv_eqB, dv_neI, dv_neS, dv_neB, dv_lt, dv_le, dv_gt, dv_ge, ixk_some, dv_ixT, dv_ixL, dv_ixR, dv_ixDS, dv_ixDI, dv_slT, dv_slL, dv_slR, dv_lenT, dv_lenL, dv_lenR, dv_lenD, dv_intI, dv_intB, dv_abs, dv_min, dv_max, dv_listT, dv_listL, dv_listR, dv_tupT, dv_tupL, dv_tupR, dv_get2S, dv_get2I, dv_dictD, at0, at1, at2, at3, at4, at5, ap_comp, optC_some, optC_none, cl_nil, cl_cons, wb_nil, wb_cons, wbS_un, wbS_fz, wp_nil, wp_cons, bk_nil, bk_cons, bkS_some, condK_true, condK_false, ap_turn, turnW_true, turnK_ok, ap_yes, ap_part, intK_int, nb_none, nb_some, slK_s, slV_some, pin_un, pin_fz, pin_ow, dv_isiII, dv_isiIB, ap_isi2, isi2K_at, isi2T_some, isi2B_some, ap_chain, chK_some, chS_true, chS_false, inS_some, notInS_some, dv_in, dv_notIn, inB_strsT, inB_strsL, inB_dic, inB_T1, inB_T2, inB_T3, dv_all, dv_any, ty_non, ty_bl, ty_int, ty_str, ty_tup, ty_lst, ty_dic, dv_isi, isiT_some, isiK_some, kb_nn, kb_nb, kb_ns, kb_nt, kb_nl, kb_bi, kb_bb, kb_bs, kb_bt, kb_bl, kb_ii, kb_ib, kb_is, kb_it, kb_il, kb_si, kb_sb, kb_ss, kb_st, kb_sl, kb_ti, kb_tb, kb_ts, kb_tt, kb_tl, kb_li, kb_lb, kb_ls, kb_lt, kb_ll, kb_di, kb_db, kb_ds, kb_dt, kb_dl, i2_n, i2_b, i2_i, i2_s, i2_t, i2_l, List.map_cons, List.map_nil, List.cons_append, List.nil_append, List.replicate_succ, List.replicate_zero, List.append_nil, List.length_cons, List.length_nil, List.getElem?_cons_zero, List.getElem?_cons_succ, List.set_cons_zero, List.set_cons_succ, List.all_cons, List.all_nil, Option.map_some, ↓reduceIte, Nat.reduceAdd, Nat.reduceSub, Nat.reduceEqDiff, Bool.and_true, Bool.true_and, Bool.and_false, Bool.false_and, Bool.not_true, Bool.not_false, Bool.or_false, Bool.or_true, Bool.false_or, Bool.true_or, decide_true, decide_false, eq_self, String.reduceEq, Int.reduceEq, Int.reduceLT, Int.reduceLE, run_A, tupK_ok, lstK_ok, compK_ok, ap_tgT_tup, ap_tgT_pr, ap_tgT_lst, sizeLine_eq, Nat.reduceLeDiff, Nat.reduceLT, str_eq, Int.reducePow, Nat.reducePow, Int.reduceToNat, Int.reduceNeg, Int.cast_ofNat_Int, Nat.reduceBNe, scD, h0, h1', List.length_map, Int.natCast_add, Int.natCast_one, hp, dv_mod, hat]
  obtain ⟨c, hcell⟩ := hcell
  have hR : 0 ≤ ((c % 1000003 + 31 * k * k + 1) * 48271 % 999983 * 7919 % 524287 % many) := Int.emod_nonneg _ (by omega)
  have hR2 : ((c % 1000003 + 31 * k * k + 1) * 48271 % 999983 * 7919 % 524287 % many) < many := Int.emod_lt_of_pos _ hm
  have m1 : mulOk 31 = true := by decide
  have m2 : mulOk k = true := by unfold mulOk; simp only [Bool.and_eq_true, decide_eq_true_eq]; omega
  have m3 : mulOk 48271 = true := by decide
  have m4 : mulOk 7919 = true := by decide
  have htail : ∀ (s4 s5 : Slot), (sSeq (sAsg 6 (c2 addD (c2 addD (c2 modD (cVar 3) (cK (.int 1000003))) (c2 mulD (c2 mulD (cK (.int 31)) (cVar 1)) (cVar 1))) (cK (.int 1)))) <|
      sRet (c2 modD (c2 modD (c2 mulD (c2 modD (c2 mulD (cVar 6) (cK (.int 48271))) (cK (.int 999983))) (cK (.int 7919))) (cK (.int 524287))) (cVar 2))) [.fz (scD ns), .fz (.int k), .fz (.int many), .fz (.int c), s4, s5, .un] =
      .ok (.rt (.v (.int ((c % 1000003 + 31 * k * k + 1) * 48271 % 999983 * 7919 % 524287 % many)))) [.fz (scD ns), .fz (.int k), .fz (.int many), .fz (.int c), s4, s5, .fz (.int (c % 1000003 + 31 * k * k + 1))] := by
    intro s4 s5
    simp only [ob_ok, ob_stuck, ob_exc, ap_ret, ap_fail, ap_bnd, ap_var, var_fz, var_ow, var_io, var_bw, ap_K, ap_op, op_v, op_o, op_s, ap_val, take_v, take_o, take_s, takeS_fz, takeS_ow, view_v, view_o, view_s, viewS_fz, viewS_ow, viewS_io, viewS_bw, val_lst, val_dic, val_dit, sr_d, sr_nt, sr_ob, sr_no, ap_c1, c1k_some, ap_c2, c2k_some, arg_valm, arg_bwm, arg_iom, bwK_v, bwK_s, ioK_v, ioK_s, sq_nil, sq_cons, ap_cN, cNk_some, vs_nil, vs_cons, vsk_some, av_d, av_s, av_io, ar_nil, ar_cons, ark_some, arg_d, arg_s, arg_i, argS_fz, argS_ow, argS_io, argS_bw, argI_fz, argI_ow, argI_io, df_nil, df_d, df_s, df_io, ix_d, ix_s, ix_io, ap_call, callK_some, callD_true, callR_ok, rt_v, rt_o, ue_nil, ue_cons, uek_none, uek_ow, uek_io, of_nil, of_d, of_s, of_none, of_io, ap_B, br_v, ap_T, tru_non, tru_bl, tru_int, tru_tup, tru_lst, tru_scr, tru_dic, ap_not, notB_ok, ap_if, iteB_true, iteB_false, ap_and, ap_or, ap_andV, ap_orV, ap_notV, ap_seq, seqB_nx, seqB_rt, seqB_bk, seqB_ct, ap_nx, ap_bk, ap_ct, ap_sret, ap_sretN, ap_expr, ap_asg, asg_at, asg_vu, asg_vf, asg_vo, asg_ou, asg_of, asg_oo, asg_su, asg_sf, asg_so, asgJ_ow, asgJ_fz, ap_tgN, tgS_un, tgS_fz, tgS_ow, ap_tgNil, ap_tgCons, ap_asgT, ap_cSeq, sq_lst, sq_scr, sq_str, sq_tup, ap_rg1, ap_rg2, ap_for, for_nil, for_cons, forK_nx, forK_ct, forK_bk, forK_rt, tk_nil, tk_cons, ap_tup, ap_lst, ap_dic0, pm_nil, pm_cons, ap_dic, dicK_ok, ap_sl, slK_v, part_none, ap_kind, kd_dic, ap_get2, g2K_some, ap_get1, g1K_some, ap_oa, oa_ow, oa_io, ap_ot, ot_lst, ot_lstI, ot_dic, ot_dicI, ap_wr, wr_ow, wr_io, wrO_some, wrI_some, ap_set, ap_mut, run_F, runK_ok, fin_at, fin_nx, fin_v, fin_o, fin_s, finS_ow, finS_fz, outs_nil, outs_fz, outs_bw, outs_io, en_at, slot_fz, slot_io, slot_bw, dv_add, dv_sub, dv_neg, dv_eqI, dv_eqS, dv_eqB, dv_neI, dv_neS, dv_neB, dv_lt, dv_le, dv_gt, dv_ge, ixk_some, dv_ixT, dv_ixL, dv_ixR, dv_ixDS, dv_ixDI, dv_slT, dv_slL, dv_slR, dv_lenT, dv_lenL, dv_lenR, dv_lenD, dv_intI, dv_intB, dv_abs, dv_min, dv_max, dv_listT, dv_listL, dv_listR, dv_tupT, dv_tupL, dv_tupR, dv_get2S, dv_get2I, dv_dictD, at0, at1, at2, at3, at4, at5, ap_comp, optC_some, optC_none, cl_nil, cl_cons, wb_nil, wb_cons, wbS_un, wbS_fz, wp_nil, wp_cons, bk_nil, bk_cons, bkS_some, condK_true, condK_false, ap_turn, turnW_true, turnK_ok, ap_yes, ap_part, intK_int, nb_none, nb_some, slK_s, slV_some, pin_un, pin_fz, pin_ow, dv_isiII, dv_isiIB, ap_isi2, isi2K_at, isi2T_some, isi2B_some, ap_chain, chK_some, chS_true, chS_false, inS_some, notInS_some, dv_in, dv_notIn, inB_strsT, inB_strsL, inB_dic, inB_T1, inB_T2, inB_T3, dv_all, dv_any, ty_non, ty_bl, ty_int, ty_str, ty_tup, ty_lst, ty_dic, dv_isi, isiT_some, isiK_some, kb_nn, kb_nb, kb_ns, kb_nt, kb_nl, kb_bi, kb_bb, kb_bs, kb_bt, kb_bl, kb_ii, kb_ib, kb_is, kb_it, kb_il, kb_si, kb_sb, kb_ss, kb_st, kb_sl, kb_ti, kb_tb, kb_ts, kb_tt, kb_tl, kb_li, kb_lb, kb_ls, kb_lt, kb_ll, kb_di, kb_db, kb_ds, kb_dt, kb_dl, i2_n, i2_b, i2_i, i2_s, i2_t, i2_l, List.map_cons, List.map_nil, List.cons_append, List.nil_append, List.replicate_succ, List.replicate_zero, List.append_nil, List.length_cons, List.length_nil, List.getElem?_cons_zero, List.getElem?_cons_succ, List.set_cons_zero, List.set_cons_succ, List.all_cons, List.all_nil, Option.map_some, ↓reduceIte, Nat.reduceAdd, Nat.reduceSub, Nat.reduceEqDiff, Bool.and_true, Bool.true_and, Bool.and_false, Bool.false_and, Bool.not_true, Bool.not_false, Bool.or_false, Bool.or_true, Bool.false_or, Bool.true_or, decide_true, decide_false, eq_self, String.reduceEq, Int.reduceEq, Int.reduceLT, Int.reduceLE, run_A, tupK_ok, lstK_ok, compK_ok, ap_tgT_tup, ap_tgT_pr, ap_tgT_lst, sizeLine_eq, Nat.reduceLeDiff, Nat.reduceLT, str_eq, Int.reducePow, Nat.reducePow, Int.reduceToNat, Int.reduceNeg, Int.cast_ofNat_Int, Nat.reduceBNe, dv_mod, dv_mulL, dv_mulR, m1, m2, m3, m4, hm]
  have h0 : (0 : Int) ≤ 18 := by decide
  have h18 : (18 : Int) ≤ 1000000 := by decide
  have h10 : (10 : Int).natAbs < 2 ^ 64 := by decide
  by_cases hc : 1000000000000000000 ≤ c
  · -- the cell is a great one
    have hlen : 0 < ns.length := by
      cases ns with
      | nil =>
        have := hcell [.fz (scD []), .fz (.int k)] rfl rfl
        simp only [ob_ok, ob_stuck, ob_exc, ap_ret, ap_fail, ap_bnd, ap_var, var_fz, var_ow, var_io, var_bw, ap_K, ap_op, op_v, op_o, op_s, ap_val, take_v, take_o, take_s, takeS_fz, takeS_ow, view_v, view_o, view_s, viewS_fz, viewS_ow, viewS_io, viewS_bw, val_lst, val_dic, val_dit, sr_d, sr_nt, sr_ob, sr_no, ap_c1, c1k_some, ap_c2, c2k_some, arg_valm, arg_bwm, arg_iom, bwK_v, bwK_s, ioK_v, ioK_s, sq_nil, sq_cons, ap_cN, cNk_some, vs_nil, vs_cons, vsk_some, av_d, av_s, av_io, ar_nil, ar_cons, ark_some, arg_d, arg_s, arg_i, argS_fz, argS_ow, argS_io, argS_bw, argI_fz, argI_ow, argI_io, df_nil, df_d, df_s, df_io, ix_d, ix_s, ix_io, ap_call, callK_some, callD_true, callR_ok, rt_v, rt_o, ue_nil, ue_cons, uek_none, uek_ow, uek_io, of_nil, of_d, of_s, of_none, of_io, ap_B, br_v, ap_T, tru_non, tru_bl, tru_int, tru_tup, tru_lst, tru_scr, tru_dic, ap_not, notB_ok, ap_if, iteB_true, iteB_false, ap_and, ap_or, ap_andV, ap_orV, ap_notV, ap_seq, seqB_nx, seqB_rt, seqB_bk, seqB_ct, ap_nx, ap_bk, ap_ct, ap_sret, ap_sretN, ap_expr, ap_asg, asg_at, asg_vu, asg_vf, asg_vo, asg_ou, asg_of, asg_oo, asg_su, asg_sf, asg_so, asgJ_ow, asgJ_fz, ap_tgN, tgS_un, tgS_fz, tgS_ow, ap_tgNil, ap_tgCons, ap_asgT, ap_cSeq, sq_lst, sq_scr, sq_str, sq_tup, ap_rg1, ap_rg2, ap_for, for_nil, for_cons, forK_nx, forK_ct, forK_bk, forK_rt, tk_nil, tk_cons, ap_tup, ap_lst, ap_dic0, pm_nil, pm_cons, ap_dic, dicK_ok, ap_sl, slK_v, part_none, ap_kind, kd_dic, ap_get2, g2K_some, ap_get1, g1K_some, ap_oa, oa_ow, oa_io, ap_ot, ot_lst, ot_lstI, ot_dic, ot_dicI, ap_wr, wr_ow, wr_io, wrO_some, wrI_some, ap_set, ap_mut, run_F, runK_ok, fin_at, fin_nx, fin_v, fin_o, fin_s, finS_ow, finS_fz, outs_nil, outs_fz, outs_bw, outs_io, en_at, slot_fz, slot_io, slot_bw, dv_add, dv_sub, dv_neg, dv_eqI, dv_eqS, dv_eqB, dv_neI, dv_neS, dv_neB, dv_lt, dv_le, dv_gt, dv_ge, ixk_some, dv_ixT, dv_ixL, dv_ixR, dv_ixDS, dv_ixDI, dv_slT, dv_slL, dv_slR, dv_lenT, dv_lenL, dv_lenR, dv_lenD, dv_intI, dv_intB, dv_abs, dv_min, dv_max, dv_listT, dv_listL, dv_listR, dv_tupT, dv_tupL, dv_tupR, dv_get2S, dv_get2I, dv_dictD, at0, at1, at2, at3, at4, at5, ap_comp, optC_some, optC_none, cl_nil, cl_cons, wb_nil, wb_cons, wbS_un, wbS_fz, wp_nil, wp_cons, bk_nil, bk_cons, bkS_some, condK_true, condK_false, ap_turn, turnW_true, turnK_ok, ap_yes, ap_part, intK_int, nb_none, nb_some, slK_s, slV_some, pin_un, pin_fz, pin_ow, dv_isiII, dv_isiIB, ap_isi2, isi2K_at, isi2T_some, isi2B_some, ap_chain, chK_some, chS_true, chS_false, inS_some, notInS_some, dv_in, dv_notIn, inB_strsT, inB_strsL, inB_dic, inB_T1, inB_T2, inB_T3, dv_all, dv_any, ty_non, ty_bl, ty_int, ty_str, ty_tup, ty_lst, ty_dic, dv_isi, isiT_some, isiK_some, kb_nn, kb_nb, kb_ns, kb_nt, kb_nl, kb_bi, kb_bb, kb_bs, kb_bt, kb_bl, kb_ii, kb_ib, kb_is, kb_it, kb_il, kb_si, kb_sb, kb_ss, kb_st, kb_sl, kb_ti, kb_tb, kb_ts, kb_tt, kb_tl, kb_li, kb_lb, kb_ls, kb_lt, kb_ll, kb_di, kb_db, kb_ds, kb_dt, kb_dl, i2_n, i2_b, i2_i, i2_s, i2_t, i2_l, List.map_cons, List.map_nil, List.cons_append, List.nil_append, List.replicate_succ, List.replicate_zero, List.append_nil, List.length_cons, List.length_nil, List.getElem?_cons_zero, List.getElem?_cons_succ, List.set_cons_zero, List.set_cons_succ, List.all_cons, List.all_nil, Option.map_some, ↓reduceIte, Nat.reduceAdd, Nat.reduceSub, Nat.reduceEqDiff, Bool.and_true, Bool.true_and, Bool.and_false, Bool.false_and, Bool.not_true, Bool.not_false, Bool.or_false, Bool.or_true, Bool.false_or, Bool.true_or, decide_true, decide_false, eq_self, String.reduceEq, Int.reduceEq, Int.reduceLT, Int.reduceLE, run_A, tupK_ok, lstK_ok, compK_ok, ap_tgT_tup, ap_tgT_pr, ap_tgT_lst, sizeLine_eq, Nat.reduceLeDiff, Nat.reduceLT, str_eq, Int.reducePow, Nat.reducePow, Int.reduceToNat, Int.reduceNeg, Int.cast_ofNat_Int, Nat.reduceBNe, scD, Int.natCast_zero, Int.lt_irrefl] at this
        injection this with q
        injection q with q
        injection q with q
        omega
      | cons a l => simp
    have hln : (0 : Int) < (ns.length : Int) := by omega
    have hln2 : (ns.length : Int) < 1073741824 := by omega
    have hr : small62 (k / (ns.length : Int) % 60) = true := by
      have a1 : 0 ≤ k / (ns.length : Int) % 60 := Int.emod_nonneg _ (by decide)
      have a2 : k / (ns.length : Int) % 60 < 60 := Int.emod_lt_of_pos _ (by decide)
      unfold small62
      simp only [Bool.and_eq_true, decide_eq_true_eq]
      omega
    obtain ⟨e1, q1, left, s5, q2⟩ := for_run (b := fun d => bnd (tgN 5 d) fun _ => sAsg 4 (c2 fdivD (cVar 4) (cK (.int 1000003))))
      (P := fun _ e => ∃ (v : Int) (s5 : D), e = [.fz (scD ns), .fz (.int k), .fz (.int many), .fz (.int c), .fz (.int v), .fz s5, .un] ∨ e = [.fz (scD ns), .fz (.int k), .fz (.int many), .fz (.int c), .fz (.int v), .un, .un])
      (rangeD 0 (k / (ns.length : Int) % 60).toNat) 0 [.fz (scD ns), .fz (.int k), .fz (.int many), .fz (.int c), .fz (.int c), .un, .un] ⟨c, .non, .inr rfl⟩ (by
        rintro i d e _ ⟨v, s5, rfl | rfl⟩
        all_goals
          refine ⟨_, ?_, v / 1000003, d, .inl rfl⟩
          simp only [ob_ok, ob_stuck, ob_exc, ap_ret, ap_fail, ap_bnd, ap_var, var_fz, var_ow, var_io, var_bw, ap_K, ap_op, op_v, op_o, op_s, ap_val, take_v, take_o, take_s, takeS_fz, takeS_ow, view_v, view_o, view_s, viewS_fz, viewS_ow, viewS_io, viewS_bw, val_lst, val_dic, val_dit, sr_d, sr_nt, sr_ob, sr_no, ap_c1, c1k_some, ap_c2, c2k_some, arg_valm, arg_bwm, arg_iom, bwK_v, bwK_s, ioK_v, ioK_s, sq_nil, sq_cons, ap_cN, cNk_some, vs_nil, vs_cons, vsk_some, av_d, av_s, av_io, ar_nil, ar_cons, ark_some, arg_d, arg_s, arg_i, argS_fz, argS_ow, argS_io, argS_bw, argI_fz, argI_ow, argI_io, df_nil, df_d, df_s, df_io, ix_d, ix_s, ix_io, ap_call, callK_some, callD_true, callR_ok, rt_v, rt_o, ue_nil, ue_cons, uek_none, uek_ow, uek_io, of_nil, of_d, of_s, of_none, of_io, ap_B, br_v, ap_T, tru_non, tru_bl, tru_int, tru_tup, tru_lst, tru_scr, tru_dic, ap_not, notB_ok, ap_if, iteB_true, iteB_false, ap_and, ap_or, ap_andV, ap_orV, ap_notV, ap_seq, seqB_nx, seqB_rt, seqB_bk, seqB_ct, ap_nx, ap_bk, ap_ct, ap_sret, ap_sretN, ap_expr, ap_asg, asg_at, asg_vu, asg_vf, asg_vo, asg_ou, asg_of, asg_oo, asg_su, asg_sf, asg_so, asgJ_ow, asgJ_fz, ap_tgN, tgS_un, tgS_fz, tgS_ow, ap_tgNil, ap_tgCons, ap_asgT, ap_cSeq, sq_lst, sq_scr, sq_str, sq_tup, ap_rg1, ap_rg2, ap_for, for_nil, for_cons, forK_nx, forK_ct, forK_bk, forK_rt, tk_nil, tk_cons, ap_tup, ap_lst, ap_dic0, pm_nil, pm_cons, ap_dic, dicK_ok, ap_sl, slK_v, part_none, ap_kind, kd_dic, ap_get2, g2K_some, ap_get1, g1K_some, ap_oa, oa_ow, oa_io, ap_ot, ot_lst, ot_lstI, ot_dic, ot_dicI, ap_wr, wr_ow, wr_io, wrO_some, wrI_some, ap_set, ap_mut, run_F, runK_ok, fin_at, fin_nx, fin_v, fin_o, fin_s, finS_ow, finS_fz, outs_nil, outs_fz, outs_bw, outs_io, en_at, slot_fz, slot_io, slot_bw, dv_add, dv_sub, dv_neg, dv_eqI, dv_eqS, dv_eqB, dv_neI, dv_neS, dv_neB, dv_lt, dv_le, dv_gt, dv_ge, ixk_some, dv_ixT, dv_ixL, dv_ixR, dv_ixDS, dv_ixDI, dv_slT, dv_slL, dv_slR, dv_lenT, dv_lenL, dv_lenR, dv_lenD, dv_intI, dv_intB, dv_abs, dv_min, dv_max, dv_listT, dv_listL, dv_listR, dv_tupT, dv_tupL, dv_tupR, dv_get2S, dv_get2I, dv_dictD, at0, at1, at2, at3, at4, at5, ap_comp, optC_some, optC_none, cl_nil, cl_cons, wb_nil, wb_cons, wbS_un, wbS_fz, wp_nil, wp_cons, bk_nil, bk_cons, bkS_some, condK_true, condK_false, ap_turn, turnW_true, turnK_ok, ap_yes, ap_part, intK_int, nb_none, nb_some, slK_s, slV_some, pin_un, pin_fz, pin_ow, dv_isiII, dv_isiIB, ap_isi2, isi2K_at, isi2T_some, isi2B_some, ap_chain, chK_some, chS_true, chS_false, inS_some, notInS_some, dv_in, dv_notIn, inB_strsT, inB_strsL, inB_dic, inB_T1, inB_T2, inB_T3, dv_all, dv_any, ty_non, ty_bl, ty_int, ty_str, ty_tup, ty_lst, ty_dic, dv_isi, isiT_some, isiK_some, kb_nn, kb_nb, kb_ns, kb_nt, kb_nl, kb_bi, kb_bb, kb_bs, kb_bt, kb_bl, kb_ii, kb_ib, kb_is, kb_it, kb_il, kb_si, kb_sb, kb_ss, kb_st, kb_sl, kb_ti, kb_tb, kb_ts, kb_tt, kb_tl, kb_li, kb_lb, kb_ls, kb_lt, kb_ll, kb_di, kb_db, kb_ds, kb_dt, kb_dl, i2_n, i2_b, i2_i, i2_s, i2_t, i2_l, List.map_cons, List.map_nil, List.cons_append, List.nil_append, List.replicate_succ, List.replicate_zero, List.append_nil, List.length_cons, List.length_nil, List.getElem?_cons_zero, List.getElem?_cons_succ, List.set_cons_zero, List.set_cons_succ, List.all_cons, List.all_nil, Option.map_some, ↓reduceIte, Nat.reduceAdd, Nat.reduceSub, Nat.reduceEqDiff, Bool.and_true, Bool.true_and, Bool.and_false, Bool.false_and, Bool.not_true, Bool.not_false, Bool.or_false, Bool.or_true, Bool.false_or, Bool.true_or, decide_true, decide_false, eq_self, String.reduceEq, Int.reduceEq, Int.reduceLT, Int.reduceLE, run_A, tupK_ok, lstK_ok, compK_ok, ap_tgT_tup, ap_tgT_pr, ap_tgT_lst, sizeLine_eq, Nat.reduceLeDiff, Nat.reduceLT, str_eq, Int.reducePow, Nat.reducePow, Int.reduceToNat, Int.reduceNeg, Int.cast_ofNat_Int, Nat.reduceBNe, dv_fdiv])
    have fin : ∀ s5' : Slot, e1 = [.fz (scD ns), .fz (.int k), .fz (.int many), .fz (.int c), .fz (.int left), s5', .un] → ∃ r, 0 ≤ r ∧ r < many ∧ ∀ n, fn (n + 1) 5 [.fz (scD ns), .fz (.int k), .fz (.int many)] = .ok (.v (.int r)) [none, none, none] := by
      intro s5' he
      subst he
      have hpre : ∀ n : Nat, ∀ R : FO, (0 < left → runK [.fz (scD ns), .fz (.int k), .fz (.int many)] (.ok (.rt (.v (.int (left / 2 % 500009 % many)))) [.fz (scD ns), .fz (.int k), .fz (.int many), .fz (.int c), .fz (.int left), s5', .un]) = R) →
          (¬ 0 < left → runK [.fz (scD ns), .fz (.int k), .fz (.int many)] (.ok (.rt (.v (.int ((c % 1000003 + 31 * k * k + 1) * 48271 % 999983 * 7919 % 524287 % many)))) [.fz (scD ns), .fz (.int k), .fz (.int many), .fz (.int c), .fz (.int left), s5', .fz (.int (c % 1000003 + 31 * k * k + 1))]) = R) →
          fn (n + 1) 5 [.fz (scD ns), .fz (.int k), .fz (.int many)] = R := by
        intro n R hA hB
        rw [fn_succ]
        simp only [step, run_A, run_F, en_at, slot_fz, slot_io, slot_bw, List.map_cons, List.map_nil, List.cons_append, List.nil_append, List.replicate_succ, List.replicate_zero, List.append_nil, List.length_cons, List.length_nil, Nat.reduceAdd, Nat.reduceSub, c_law_draw]
        unfold m_law_draw
        rw [ap_seq, ap_asg, hcell _ rfl rfl]
        simp only [ob_ok, ob_stuck, ob_exc, ap_ret, ap_fail, ap_bnd, ap_var, var_fz, var_ow, var_io, var_bw, ap_K, ap_op, op_v, op_o, op_s, ap_val, take_v, take_o, take_s, takeS_fz, takeS_ow, view_v, view_o, view_s, viewS_fz, viewS_ow, viewS_io, viewS_bw, val_lst, val_dic, val_dit, sr_d, sr_nt, sr_ob, sr_no, ap_c1, c1k_some, ap_c2, c2k_some, arg_valm, arg_bwm, arg_iom, bwK_v, bwK_s, ioK_v, ioK_s, sq_nil, sq_cons, ap_cN, cNk_some, vs_nil, vs_cons, vsk_some, av_d, av_s, av_io, ar_nil, ar_cons, ark_some, arg_d, arg_s, arg_i, argS_fz, argS_ow, argS_io, argS_bw, argI_fz, argI_ow, argI_io, df_nil, df_d, df_s, df_io, ix_d, ix_s, ix_io, ap_call, callK_some, callD_true, callR_ok, rt_v, rt_o, ue_nil, ue_cons, uek_none, uek_ow, uek_io, of_nil, of_d, of_s, of_none, of_io, ap_B, br_v, ap_T, tru_non, tru_bl, tru_int, tru_tup, tru_lst, tru_scr, tru_dic, ap_not, notB_ok, ap_if, iteB_true, iteB_false, ap_and, ap_or, ap_andV, ap_orV, ap_notV, seqB_nx, seqB_rt, seqB_bk, seqB_ct, ap_nx, ap_bk, ap_ct, ap_sret, ap_sretN, ap_expr, ap_asg, asg_at, asg_vu, asg_vf, asg_vo, asg_ou, asg_of, asg_oo, asg_su, asg_sf, asg_so, asgJ_ow, asgJ_fz, ap_tgN, tgS_un, tgS_fz, tgS_ow, ap_tgNil, ap_tgCons, ap_asgT, ap_cSeq, sq_lst, sq_scr, sq_str, sq_tup, ap_rg1, ap_rg2, ap_for, for_nil, for_cons, forK_nx, forK_ct, forK_bk, forK_rt, tk_nil, tk_cons, ap_tup, ap_lst, ap_dic0, pm_nil, pm_cons, ap_dic, dicK_ok, ap_sl, slK_v, part_none, ap_kind, kd_dic, ap_get2, g2K_some, ap_get1, g1K_some, ap_oa, oa_ow, oa_io, ap_ot, ot_lst, ot_lstI, ot_dic, ot_dicI, ap_wr, wr_ow, wr_io, wrO_some, wrI_some, ap_set, ap_mut, run_F, runK_ok, fin_at, fin_nx, fin_v, fin_o, fin_s, finS_ow, finS_fz, outs_nil, outs_fz, outs_bw, outs_io, en_at, slot_fz, slot_io, slot_bw, dv_add, dv_sub, dv_neg, dv_eqI, dv_eqS, dv_eqB, dv_neI, dv_neS, dv_neB, dv_lt, dv_le, dv_gt, dv_ge, ixk_some, dv_ixT, dv_ixL, dv_ixR, dv_ixDS, dv_ixDI, dv_slT, dv_slL, dv_slR, dv_lenT, dv_lenL, dv_lenR, dv_lenD, dv_intI, dv_intB, dv_abs, dv_min, dv_max, dv_listT, dv_listL, dv_listR, dv_tupT, dv_tupL, dv_tupR, dv_get2S, dv_get2I, dv_dictD, at0, at1, at2, at3, at4, at5, ap_comp, optC_some, optC_none, cl_nil, cl_cons, wb_nil, wb_cons, wbS_un, wbS_fz, wp_nil, wp_cons, bk_nil, bk_cons, bkS_some, condK_true, condK_false, ap_turn, turnW_true, turnK_ok, ap_yes, ap_part, intK_int, nb_none, nb_some, slK_s, slV_some, pin_un, pin_fz, pin_ow, dv_isiII, dv_isiIB, ap_isi2, isi2K_at, isi2T_some, isi2B_some, ap_chain, chK_some, chS_true, chS_false, inS_some, notInS_some, dv_in, dv_notIn, inB_strsT, inB_strsL, inB_dic, inB_T1, inB_T2, inB_T3, dv_all, dv_any, ty_non, ty_bl, ty_int, ty_str, ty_tup, ty_lst, ty_dic, dv_isi, isiT_some, isiK_some, kb_nn, kb_nb, kb_ns, kb_nt, kb_nl, kb_bi, kb_bb, kb_bs, kb_bt, kb_bl, kb_ii, kb_ib, kb_is, kb_it, kb_il, kb_si, kb_sb, kb_ss, kb_st, kb_sl, kb_ti, kb_tb, kb_ts, kb_tt, kb_tl, kb_li, kb_lb, kb_ls, kb_lt, kb_ll, kb_di, kb_db, kb_ds, kb_dt, kb_dl, i2_n, i2_b, i2_i, i2_s, i2_t, i2_l, List.map_cons, List.map_nil, List.cons_append, List.nil_append, List.replicate_succ, List.replicate_zero, List.append_nil, List.length_cons, List.length_nil, List.getElem?_cons_zero, List.getElem?_cons_succ, List.set_cons_zero, List.set_cons_succ, List.all_cons, List.all_nil, Option.map_some, ↓reduceIte, Nat.reduceAdd, Nat.reduceSub, Nat.reduceEqDiff, Bool.and_true, Bool.true_and, Bool.and_false, Bool.false_and, Bool.not_true, Bool.not_false, Bool.or_false, Bool.or_true, Bool.false_or, Bool.true_or, decide_true, decide_false, eq_self, String.reduceEq, Int.reduceEq, Int.reduceLT, Int.reduceLE, run_A, tupK_ok, lstK_ok, compK_ok, ap_tgT_tup, ap_tgT_pr, ap_tgT_lst, sizeLine_eq, Nat.reduceLeDiff, Nat.reduceLT, str_eq, Int.reducePow, Nat.reducePow, Int.reduceToNat, Int.reduceNeg, Int.cast_ofNat_Int, Nat.reduceBNe]
        rw [ap_seq]
        simp only [ob_ok, ob_stuck, ob_exc, ap_ret, ap_fail, ap_bnd, ap_var, var_fz, var_ow, var_io, var_bw, ap_K, ap_op, op_v, op_o, op_s, ap_val, take_v, take_o, take_s, takeS_fz, takeS_ow, view_v, view_o, view_s, viewS_fz, viewS_ow, viewS_io, viewS_bw, val_lst, val_dic, val_dit, sr_d, sr_nt, sr_ob, sr_no, ap_c1, c1k_some, ap_c2, c2k_some, arg_valm, arg_bwm, arg_iom, bwK_v, bwK_s, ioK_v, ioK_s, sq_nil, sq_cons, ap_cN, cNk_some, vs_nil, vs_cons, vsk_some, av_d, av_s, av_io, ar_nil, ar_cons, ark_some, arg_d, arg_s, arg_i, argS_fz, argS_ow, argS_io, argS_bw, argI_fz, argI_ow, argI_io, df_nil, df_d, df_s, df_io, ix_d, ix_s, ix_io, ap_call, callK_some, callD_true, callR_ok, rt_v, rt_o, ue_nil, ue_cons, uek_none, uek_ow, uek_io, of_nil, of_d, of_s, of_none, of_io, ap_B, br_v, ap_T, tru_non, tru_bl, tru_int, tru_tup, tru_lst, tru_scr, tru_dic, ap_not, notB_ok, ap_if, iteB_true, iteB_false, ap_and, ap_or, ap_andV, ap_orV, ap_notV, seqB_nx, seqB_rt, seqB_bk, seqB_ct, ap_nx, ap_bk, ap_ct, ap_sret, ap_sretN, ap_expr, ap_asg, asg_at, asg_vu, asg_vf, asg_vo, asg_ou, asg_of, asg_oo, asg_su, asg_sf, asg_so, asgJ_ow, asgJ_fz, ap_tgN, tgS_un, tgS_fz, tgS_ow, ap_tgNil, ap_tgCons, ap_asgT, ap_cSeq, sq_lst, sq_scr, sq_str, sq_tup, ap_rg1, ap_rg2, ap_for, for_nil, for_cons, forK_nx, forK_ct, forK_bk, forK_rt, tk_nil, tk_cons, ap_tup, ap_lst, ap_dic0, pm_nil, pm_cons, ap_dic, dicK_ok, ap_sl, slK_v, part_none, ap_kind, kd_dic, ap_get2, g2K_some, ap_get1, g1K_some, ap_oa, oa_ow, oa_io, ap_ot, ot_lst, ot_lstI, ot_dic, ot_dicI, ap_wr, wr_ow, wr_io, wrO_some, wrI_some, ap_set, ap_mut, run_F, runK_ok, fin_at, fin_nx, fin_v, fin_o, fin_s, finS_ow, finS_fz, outs_nil, outs_fz, outs_bw, outs_io, en_at, slot_fz, slot_io, slot_bw, dv_add, dv_sub, dv_neg, dv_eqI, dv_eqS, dv_eqB, dv_neI, dv_neS, dv_neB, dv_lt, dv_le, dv_gt, dv_ge, ixk_some, dv_ixT, dv_ixL, dv_ixR, dv_ixDS, dv_ixDI, dv_slT, dv_slL, dv_slR, dv_lenT, dv_lenL, dv_lenR, dv_lenD, dv_intI, dv_intB, dv_abs, dv_min, dv_max, dv_listT, dv_listL, dv_listR, dv_tupT, dv_tupL, dv_tupR, dv_get2S, dv_get2I, dv_dictD, at0, at1, at2, at3, at4, at5, ap_comp, optC_some, optC_none, cl_nil, cl_cons, wb_nil, wb_cons, wbS_un, wbS_fz, wp_nil, wp_cons, bk_nil, bk_cons, bkS_some, condK_true, condK_false, ap_turn, turnW_true, turnK_ok, ap_yes, ap_part, intK_int, nb_none, nb_some, slK_s, slV_some, pin_un, pin_fz, pin_ow, dv_isiII, dv_isiIB, ap_isi2, isi2K_at, isi2T_some, isi2B_some, ap_chain, chK_some, chS_true, chS_false, inS_some, notInS_some, dv_in, dv_notIn, inB_strsT, inB_strsL, inB_dic, inB_T1, inB_T2, inB_T3, dv_all, dv_any, ty_non, ty_bl, ty_int, ty_str, ty_tup, ty_lst, ty_dic, dv_isi, isiT_some, isiK_some, kb_nn, kb_nb, kb_ns, kb_nt, kb_nl, kb_bi, kb_bb, kb_bs, kb_bt, kb_bl, kb_ii, kb_ib, kb_is, kb_it, kb_il, kb_si, kb_sb, kb_ss, kb_st, kb_sl, kb_ti, kb_tb, kb_ts, kb_tt, kb_tl, kb_li, kb_lb, kb_ls, kb_lt, kb_ll, kb_di, kb_db, kb_ds, kb_dt, kb_dl, i2_n, i2_b, i2_i, i2_s, i2_t, i2_l, List.map_cons, List.map_nil, List.cons_append, List.nil_append, List.replicate_succ, List.replicate_zero, List.append_nil, List.length_cons, List.length_nil, List.getElem?_cons_zero, List.getElem?_cons_succ, List.set_cons_zero, List.set_cons_succ, List.all_cons, List.all_nil, Option.map_some, ↓reduceIte, Nat.reduceAdd, Nat.reduceSub, Nat.reduceEqDiff, Bool.and_true, Bool.true_and, Bool.and_false, Bool.false_and, Bool.not_true, Bool.not_false, Bool.or_false, Bool.or_true, Bool.false_or, Bool.true_or, decide_true, decide_false, eq_self, String.reduceEq, Int.reduceEq, Int.reduceLT, Int.reduceLE, run_A, tupK_ok, lstK_ok, compK_ok, ap_tgT_tup, ap_tgT_pr, ap_tgT_lst, sizeLine_eq, Nat.reduceLeDiff, Nat.reduceLT, str_eq, Int.reducePow, Nat.reducePow, Int.reduceToNat, Int.reduceNeg, Int.cast_ofNat_Int, Nat.reduceBNe]
        rw [ap_seq]
        simp only [ob_ok, ob_stuck, ob_exc, ap_ret, ap_fail, ap_bnd, ap_var, var_fz, var_ow, var_io, var_bw, ap_K, ap_op, op_v, op_o, op_s, ap_val, take_v, take_o, take_s, takeS_fz, takeS_ow, view_v, view_o, view_s, viewS_fz, viewS_ow, viewS_io, viewS_bw, val_lst, val_dic, val_dit, sr_d, sr_nt, sr_ob, sr_no, ap_c1, c1k_some, ap_c2, c2k_some, arg_valm, arg_bwm, arg_iom, bwK_v, bwK_s, ioK_v, ioK_s, sq_nil, sq_cons, ap_cN, cNk_some, vs_nil, vs_cons, vsk_some, av_d, av_s, av_io, ar_nil, ar_cons, ark_some, arg_d, arg_s, arg_i, argS_fz, argS_ow, argS_io, argS_bw, argI_fz, argI_ow, argI_io, df_nil, df_d, df_s, df_io, ix_d, ix_s, ix_io, ap_call, callK_some, callD_true, callR_ok, rt_v, rt_o, ue_nil, ue_cons, uek_none, uek_ow, uek_io, of_nil, of_d, of_s, of_none, of_io, ap_B, br_v, ap_T, tru_non, tru_bl, tru_int, tru_tup, tru_lst, tru_scr, tru_dic, ap_not, notB_ok, ap_if, iteB_true, iteB_false, ap_and, ap_or, ap_andV, ap_orV, ap_notV, seqB_nx, seqB_rt, seqB_bk, seqB_ct, ap_nx, ap_bk, ap_ct, ap_sret, ap_sretN, ap_expr, ap_asg, asg_at, asg_vu, asg_vf, asg_vo, asg_ou, asg_of, asg_oo, asg_su, asg_sf, asg_so, asgJ_ow, asgJ_fz, ap_tgN, tgS_un, tgS_fz, tgS_ow, ap_tgNil, ap_tgCons, ap_asgT, ap_cSeq, sq_lst, sq_scr, sq_str, sq_tup, ap_rg1, ap_rg2, ap_for, for_nil, for_cons, forK_nx, forK_ct, forK_bk, forK_rt, tk_nil, tk_cons, ap_tup, ap_lst, ap_dic0, pm_nil, pm_cons, ap_dic, dicK_ok, ap_sl, slK_v, part_none, ap_kind, kd_dic, ap_get2, g2K_some, ap_get1, g1K_some, ap_oa, oa_ow, oa_io, ap_ot, ot_lst, ot_lstI, ot_dic, ot_dicI, ap_wr, wr_ow, wr_io, wrO_some, wrI_some, ap_set, ap_mut, run_F, runK_ok, fin_at, fin_nx, fin_v, fin_o, fin_s, finS_ow, finS_fz, outs_nil, outs_fz, outs_bw, outs_io, en_at, slot_fz, slot_io, slot_bw, dv_add, dv_sub, dv_neg, dv_eqI, dv_eqS, dv_eqB, dv_neI, dv_neS, dv_neB, dv_lt, dv_le, dv_gt, dv_ge, ixk_some, dv_ixT, dv_ixL, dv_ixR, dv_ixDS, dv_ixDI, dv_slT, dv_slL, dv_slR, dv_lenT, dv_lenL, dv_lenR, dv_lenD, dv_intI, dv_intB, dv_abs, dv_min, dv_max, dv_listT, dv_listL, dv_listR, dv_tupT, dv_tupL, dv_tupR, dv_get2S, dv_get2I, dv_dictD, at0, at1, at2, at3, at4, at5, ap_comp, optC_some, optC_none, cl_nil, cl_cons, wb_nil, wb_cons, wbS_un, wbS_fz, wp_nil, wp_cons, bk_nil, bk_cons, bkS_some, condK_true, condK_false, ap_turn, turnW_true, turnK_ok, ap_yes, ap_part, intK_int, nb_none, nb_some, slK_s, slV_some, pin_un, pin_fz, pin_ow, dv_isiII, dv_isiIB, ap_isi2, isi2K_at, isi2T_some, isi2B_some, ap_chain, chK_some, chS_true, chS_false, inS_some, notInS_some, dv_in, dv_notIn, inB_strsT, inB_strsL, inB_dic, inB_T1, inB_T2, inB_T3, dv_all, dv_any, ty_non, ty_bl, ty_int, ty_str, ty_tup, ty_lst, ty_dic, dv_isi, isiT_some, isiK_some, kb_nn, kb_nb, kb_ns, kb_nt, kb_nl, kb_bi, kb_bb, kb_bs, kb_bt, kb_bl, kb_ii, kb_ib, kb_is, kb_it, kb_il, kb_si, kb_sb, kb_ss, kb_st, kb_sl, kb_ti, kb_tb, kb_ts, kb_tt, kb_tl, kb_li, kb_lb, kb_ls, kb_lt, kb_ll, kb_di, kb_db, kb_ds, kb_dt, kb_dl, i2_n, i2_b, i2_i, i2_s, i2_t, i2_l, List.map_cons, List.map_nil, List.cons_append, List.nil_append, List.replicate_succ, List.replicate_zero, List.append_nil, List.length_cons, List.length_nil, List.getElem?_cons_zero, List.getElem?_cons_succ, List.set_cons_zero, List.set_cons_succ, List.all_cons, List.all_nil, Option.map_some, ↓reduceIte, Nat.reduceAdd, Nat.reduceSub, Nat.reduceEqDiff, Bool.and_true, Bool.true_and, Bool.and_false, Bool.false_and, Bool.not_true, Bool.not_false, Bool.or_false, Bool.or_true, Bool.false_or, Bool.true_or, decide_true, decide_false, eq_self, String.reduceEq, Int.reduceEq, Int.reduceLT, Int.reduceLE, run_A, tupK_ok, lstK_ok, compK_ok, ap_tgT_tup, ap_tgT_pr, ap_tgT_lst, sizeLine_eq, Nat.reduceLeDiff, Nat.reduceLT, str_eq, Int.reducePow, Nat.reducePow, Int.reduceToNat, Int.reduceNeg, Int.cast_ofNat_Int, Nat.reduceBNe, dv_pow, h10, hc]
        rw [ap_seq]
        simp only [ob_ok, ob_stuck, ob_exc, ap_ret, ap_fail, ap_bnd, ap_var, var_fz, var_ow, var_io, var_bw, ap_K, ap_op, op_v, op_o, op_s, ap_val, take_v, take_o, take_s, takeS_fz, takeS_ow, view_v, view_o, view_s, viewS_fz, viewS_ow, viewS_io, viewS_bw, val_lst, val_dic, val_dit, sr_d, sr_nt, sr_ob, sr_no, ap_c1, c1k_some, ap_c2, c2k_some, arg_valm, arg_bwm, arg_iom, bwK_v, bwK_s, ioK_v, ioK_s, sq_nil, sq_cons, ap_cN, cNk_some, vs_nil, vs_cons, vsk_some, av_d, av_s, av_io, ar_nil, ar_cons, ark_some, arg_d, arg_s, arg_i, argS_fz, argS_ow, argS_io, argS_bw, argI_fz, argI_ow, argI_io, df_nil, df_d, df_s, df_io, ix_d, ix_s, ix_io, ap_call, callK_some, callD_true, callR_ok, rt_v, rt_o, ue_nil, ue_cons, uek_none, uek_ow, uek_io, of_nil, of_d, of_s, of_none, of_io, ap_B, br_v, ap_T, tru_non, tru_bl, tru_int, tru_tup, tru_lst, tru_scr, tru_dic, ap_not, notB_ok, ap_if, iteB_true, iteB_false, ap_and, ap_or, ap_andV, ap_orV, ap_notV, seqB_nx, seqB_rt, seqB_bk, seqB_ct, ap_nx, ap_bk, ap_ct, ap_sret, ap_sretN, ap_expr, ap_asg, asg_at, asg_vu, asg_vf, asg_vo, asg_ou, asg_of, asg_oo, asg_su, asg_sf, asg_so, asgJ_ow, asgJ_fz, ap_tgN, tgS_un, tgS_fz, tgS_ow, ap_tgNil, ap_tgCons, ap_asgT, ap_cSeq, sq_lst, sq_scr, sq_str, sq_tup, ap_rg1, ap_rg2, ap_for, for_nil, for_cons, forK_nx, forK_ct, forK_bk, forK_rt, tk_nil, tk_cons, ap_tup, ap_lst, ap_dic0, pm_nil, pm_cons, ap_dic, dicK_ok, ap_sl, slK_v, part_none, ap_kind, kd_dic, ap_get2, g2K_some, ap_get1, g1K_some, ap_oa, oa_ow, oa_io, ap_ot, ot_lst, ot_lstI, ot_dic, ot_dicI, ap_wr, wr_ow, wr_io, wrO_some, wrI_some, ap_set, ap_mut, run_F, runK_ok, fin_at, fin_nx, fin_v, fin_o, fin_s, finS_ow, finS_fz, outs_nil, outs_fz, outs_bw, outs_io, en_at, slot_fz, slot_io, slot_bw, dv_add, dv_sub, dv_neg, dv_eqI, dv_eqS, dv_eqB, dv_neI, dv_neS, dv_neB, dv_lt, dv_le, dv_gt, dv_ge, ixk_some, dv_ixT, dv_ixL, dv_ixR, dv_ixDS, dv_ixDI, dv_slT, dv_slL, dv_slR, dv_lenT, dv_lenL, dv_lenR, dv_lenD, dv_intI, dv_intB, dv_abs, dv_min, dv_max, dv_listT, dv_listL, dv_listR, dv_tupT, dv_tupL, dv_tupR, dv_get2S, dv_get2I, dv_dictD, at0, at1, at2, at3, at4, at5, ap_comp, optC_some, optC_none, cl_nil, cl_cons, wb_nil, wb_cons, wbS_un, wbS_fz, wp_nil, wp_cons, bk_nil, bk_cons, bkS_some, condK_true, condK_false, ap_turn, turnW_true, turnK_ok, ap_yes, ap_part, intK_int, nb_none, nb_some, slK_s, slV_some, pin_un, pin_fz, pin_ow, dv_isiII, dv_isiIB, ap_isi2, isi2K_at, isi2T_some, isi2B_some, ap_chain, chK_some, chS_true, chS_false, inS_some, notInS_some, dv_in, dv_notIn, inB_strsT, inB_strsL, inB_dic, inB_T1, inB_T2, inB_T3, dv_all, dv_any, ty_non, ty_bl, ty_int, ty_str, ty_tup, ty_lst, ty_dic, dv_isi, isiT_some, isiK_some, kb_nn, kb_nb, kb_ns, kb_nt, kb_nl, kb_bi, kb_bb, kb_bs, kb_bt, kb_bl, kb_ii, kb_ib, kb_is, kb_it, kb_il, kb_si, kb_sb, kb_ss, kb_st, kb_sl, kb_ti, kb_tb, kb_ts, kb_tt, kb_tl, kb_li, kb_lb, kb_ls, kb_lt, kb_ll, kb_di, kb_db, kb_ds, kb_dt, kb_dl, i2_n, i2_b, i2_i, i2_s, i2_t, i2_l, List.map_cons, List.map_nil, List.cons_append, List.nil_append, List.replicate_succ, List.replicate_zero, List.append_nil, List.length_cons, List.length_nil, List.getElem?_cons_zero, List.getElem?_cons_succ, List.set_cons_zero, List.set_cons_succ, List.all_cons, List.all_nil, Option.map_some, ↓reduceIte, Nat.reduceAdd, Nat.reduceSub, Nat.reduceEqDiff, Bool.and_true, Bool.true_and, Bool.and_false, Bool.false_and, Bool.not_true, Bool.not_false, Bool.or_false, Bool.or_true, Bool.false_or, Bool.true_or, decide_true, decide_false, eq_self, String.reduceEq, Int.reduceEq, Int.reduceLT, Int.reduceLE, run_A, tupK_ok, lstK_ok, compK_ok, ap_tgT_tup, ap_tgT_pr, ap_tgT_lst, sizeLine_eq, Nat.reduceLeDiff, Nat.reduceLT, str_eq, Int.reducePow, Nat.reducePow, Int.reduceToNat, Int.reduceNeg, Int.cast_ofNat_Int, Nat.reduceBNe, scD, dv_fdiv, dv_mod, hln, hln2, List.length_map, rg1_int hr]
        unfold scD at q1
        rw [q1]
        simp only [ob_ok, ob_stuck, ob_exc, ap_ret, ap_fail, ap_bnd, ap_var, var_fz, var_ow, var_io, var_bw, ap_K, ap_op, op_v, op_o, op_s, ap_val, take_v, take_o, take_s, takeS_fz, takeS_ow, view_v, view_o, view_s, viewS_fz, viewS_ow, viewS_io, viewS_bw, val_lst, val_dic, val_dit, sr_d, sr_nt, sr_ob, sr_no, ap_c1, c1k_some, ap_c2, c2k_some, arg_valm, arg_bwm, arg_iom, bwK_v, bwK_s, ioK_v, ioK_s, sq_nil, sq_cons, ap_cN, cNk_some, vs_nil, vs_cons, vsk_some, av_d, av_s, av_io, ar_nil, ar_cons, ark_some, arg_d, arg_s, arg_i, argS_fz, argS_ow, argS_io, argS_bw, argI_fz, argI_ow, argI_io, df_nil, df_d, df_s, df_io, ix_d, ix_s, ix_io, ap_call, callK_some, callD_true, callR_ok, rt_v, rt_o, ue_nil, ue_cons, uek_none, uek_ow, uek_io, of_nil, of_d, of_s, of_none, of_io, ap_B, br_v, ap_T, tru_non, tru_bl, tru_int, tru_tup, tru_lst, tru_scr, tru_dic, ap_not, notB_ok, ap_if, iteB_true, iteB_false, ap_and, ap_or, ap_andV, ap_orV, ap_notV, seqB_nx, seqB_rt, seqB_bk, seqB_ct, ap_nx, ap_bk, ap_ct, ap_sret, ap_sretN, ap_expr, ap_asg, asg_at, asg_vu, asg_vf, asg_vo, asg_ou, asg_of, asg_oo, asg_su, asg_sf, asg_so, asgJ_ow, asgJ_fz, ap_tgN, tgS_un, tgS_fz, tgS_ow, ap_tgNil, ap_tgCons, ap_asgT, ap_cSeq, sq_lst, sq_scr, sq_str, sq_tup, ap_rg1, ap_rg2, ap_for, for_nil, for_cons, forK_nx, forK_ct, forK_bk, forK_rt, tk_nil, tk_cons, ap_tup, ap_lst, ap_dic0, pm_nil, pm_cons, ap_dic, dicK_ok, ap_sl, slK_v, part_none, ap_kind, kd_dic, ap_get2, g2K_some, ap_get1, g1K_some, ap_oa, oa_ow, oa_io, ap_ot, ot_lst, ot_lstI, ot_dic, ot_dicI, ap_wr, wr_ow, wr_io, wrO_some, wrI_some, ap_set, ap_mut, run_F, runK_ok, fin_at, fin_nx, fin_v, fin_o, fin_s, finS_ow, finS_fz, outs_nil, outs_fz, outs_bw, outs_io, en_at, slot_fz, slot_io, slot_bw, dv_add, dv_sub, dv_neg, dv_eqI, dv_eqS, dv_eqB, dv_neI, dv_neS, dv_neB, dv_lt, dv_le, dv_gt, dv_ge, ixk_some, dv_ixT, dv_ixL, dv_ixR, dv_ixDS, dv_ixDI, dv_slT, dv_slL, dv_slR, dv_lenT, dv_lenL, dv_lenR, dv_lenD, dv_intI, dv_intB, dv_abs, dv_min, dv_max, dv_listT, dv_listL, dv_listR, dv_tupT, dv_tupL, dv_tupR, dv_get2S, dv_get2I, dv_dictD, at0, at1, at2, at3, at4, at5, ap_comp, optC_some, optC_none, cl_nil, cl_cons, wb_nil, wb_cons, wbS_un, wbS_fz, wp_nil, wp_cons, bk_nil, bk_cons, bkS_some, condK_true, condK_false, ap_turn, turnW_true, turnK_ok, ap_yes, ap_part, intK_int, nb_none, nb_some, slK_s, slV_some, pin_un, pin_fz, pin_ow, dv_isiII, dv_isiIB, ap_isi2, isi2K_at, isi2T_some, isi2B_some, ap_chain, chK_some, chS_true, chS_false, inS_some, notInS_some, dv_in, dv_notIn, inB_strsT, inB_strsL, inB_dic, inB_T1, inB_T2, inB_T3, dv_all, dv_any, ty_non, ty_bl, ty_int, ty_str, ty_tup, ty_lst, ty_dic, dv_isi, isiT_some, isiK_some, kb_nn, kb_nb, kb_ns, kb_nt, kb_nl, kb_bi, kb_bb, kb_bs, kb_bt, kb_bl, kb_ii, kb_ib, kb_is, kb_it, kb_il, kb_si, kb_sb, kb_ss, kb_st, kb_sl, kb_ti, kb_tb, kb_ts, kb_tt, kb_tl, kb_li, kb_lb, kb_ls, kb_lt, kb_ll, kb_di, kb_db, kb_ds, kb_dt, kb_dl, i2_n, i2_b, i2_i, i2_s, i2_t, i2_l, List.map_cons, List.map_nil, List.cons_append, List.nil_append, List.replicate_succ, List.replicate_zero, List.append_nil, List.length_cons, List.length_nil, List.getElem?_cons_zero, List.getElem?_cons_succ, List.set_cons_zero, List.set_cons_succ, List.all_cons, List.all_nil, Option.map_some, ↓reduceIte, Nat.reduceAdd, Nat.reduceSub, Nat.reduceEqDiff, Bool.and_true, Bool.true_and, Bool.and_false, Bool.false_and, Bool.not_true, Bool.not_false, Bool.or_false, Bool.or_true, Bool.false_or, Bool.true_or, decide_true, decide_false, eq_self, String.reduceEq, Int.reduceEq, Int.reduceLT, Int.reduceLE, run_A, tupK_ok, lstK_ok, compK_ok, ap_tgT_tup, ap_tgT_pr, ap_tgT_lst, sizeLine_eq, Nat.reduceLeDiff, Nat.reduceLT, str_eq, Int.reducePow, Nat.reducePow, Int.reduceToNat, Int.reduceNeg, Int.cast_ofNat_Int, Nat.reduceBNe]
        by_cases hleft : 0 < left
        · have := hA hleft
          simp only [ob_ok, ob_stuck, ob_exc, ap_ret, ap_fail, ap_bnd, ap_var, var_fz, var_ow, var_io, var_bw, ap_K, ap_op, op_v, op_o, op_s, ap_val, take_v, take_o, take_s, takeS_fz, takeS_ow, view_v, view_o, view_s, viewS_fz, viewS_ow, viewS_io, viewS_bw, val_lst, val_dic, val_dit, sr_d, sr_nt, sr_ob, sr_no, ap_c1, c1k_some, ap_c2, c2k_some, arg_valm, arg_bwm, arg_iom, bwK_v, bwK_s, ioK_v, ioK_s, sq_nil, sq_cons, ap_cN, cNk_some, vs_nil, vs_cons, vsk_some, av_d, av_s, av_io, ar_nil, ar_cons, ark_some, arg_d, arg_s, arg_i, argS_fz, argS_ow, argS_io, argS_bw, argI_fz, argI_ow, argI_io, df_nil, df_d, df_s, df_io, ix_d, ix_s, ix_io, ap_call, callK_some, callD_true, callR_ok, rt_v, rt_o, ue_nil, ue_cons, uek_none, uek_ow, uek_io, of_nil, of_d, of_s, of_none, of_io, ap_B, br_v, ap_T, tru_non, tru_bl, tru_int, tru_tup, tru_lst, tru_scr, tru_dic, ap_not, notB_ok, ap_if, iteB_true, iteB_false, ap_and, ap_or, ap_andV, ap_orV, ap_notV, seqB_nx, seqB_rt, seqB_bk, seqB_ct, ap_nx, ap_bk, ap_ct, ap_sret, ap_sretN, ap_expr, ap_asg, asg_at, asg_vu, asg_vf, asg_vo, asg_ou, asg_of, asg_oo, asg_su, asg_sf, asg_so, asgJ_ow, asgJ_fz, ap_tgN, tgS_un, tgS_fz, tgS_ow, ap_tgNil, ap_tgCons, ap_asgT, ap_cSeq, sq_lst, sq_scr, sq_str, sq_tup, ap_rg1, ap_rg2, ap_for, for_nil, for_cons, forK_nx, forK_ct, forK_bk, forK_rt, tk_nil, tk_cons, ap_tup, ap_lst, ap_dic0, pm_nil, pm_cons, ap_dic, dicK_ok, ap_sl, slK_v, part_none, ap_kind, kd_dic, ap_get2, g2K_some, ap_get1, g1K_some, ap_oa, oa_ow, oa_io, ap_ot, ot_lst, ot_lstI, ot_dic, ot_dicI, ap_wr, wr_ow, wr_io, wrO_some, wrI_some, ap_set, ap_mut, run_F, runK_ok, fin_at, fin_nx, fin_v, fin_o, fin_s, finS_ow, finS_fz, outs_nil, outs_fz, outs_bw, outs_io, en_at, slot_fz, slot_io, slot_bw, dv_add, dv_sub, dv_neg, dv_eqI, dv_eqS, dv_eqB, dv_neI, dv_neS, dv_neB, dv_lt, dv_le, dv_gt, dv_ge, ixk_some, dv_ixT, dv_ixL, dv_ixR, dv_ixDS, dv_ixDI, dv_slT, dv_slL, dv_slR, dv_lenT, dv_lenL, dv_lenR, dv_lenD, dv_intI, dv_intB, dv_abs, dv_min, dv_max, dv_listT, dv_listL, dv_listR, dv_tupT, dv_tupL, dv_tupR, dv_get2S, dv_get2I, dv_dictD, at0, at1, at2, at3, at4, at5, ap_comp, optC_some, optC_none, cl_nil, cl_cons, wb_nil, wb_cons, wbS_un, wbS_fz, wp_nil, wp_cons, bk_nil, bk_cons, bkS_some, condK_true, condK_false, ap_turn, turnW_true, turnK_ok, ap_yes, ap_part, intK_int, nb_none, nb_some, slK_s, slV_some, pin_un, pin_fz, pin_ow, dv_isiII, dv_isiIB, ap_isi2, isi2K_at, isi2T_some, isi2B_some, ap_chain, chK_some, chS_true, chS_false, inS_some, notInS_some, dv_in, dv_notIn, inB_strsT, inB_strsL, inB_dic, inB_T1, inB_T2, inB_T3, dv_all, dv_any, ty_non, ty_bl, ty_int, ty_str, ty_tup, ty_lst, ty_dic, dv_isi, isiT_some, isiK_some, kb_nn, kb_nb, kb_ns, kb_nt, kb_nl, kb_bi, kb_bb, kb_bs, kb_bt, kb_bl, kb_ii, kb_ib, kb_is, kb_it, kb_il, kb_si, kb_sb, kb_ss, kb_st, kb_sl, kb_ti, kb_tb, kb_ts, kb_tt, kb_tl, kb_li, kb_lb, kb_ls, kb_lt, kb_ll, kb_di, kb_db, kb_ds, kb_dt, kb_dl, i2_n, i2_b, i2_i, i2_s, i2_t, i2_l, List.map_cons, List.map_nil, List.cons_append, List.nil_append, List.replicate_succ, List.replicate_zero, List.append_nil, List.length_cons, List.length_nil, List.getElem?_cons_zero, List.getElem?_cons_succ, List.set_cons_zero, List.set_cons_succ, List.all_cons, List.all_nil, Option.map_some, ↓reduceIte, Nat.reduceAdd, Nat.reduceSub, Nat.reduceEqDiff, Bool.and_true, Bool.true_and, Bool.and_false, Bool.false_and, Bool.not_true, Bool.not_false, Bool.or_false, Bool.or_true, Bool.false_or, Bool.true_or, decide_true, decide_false, eq_self, String.reduceEq, Int.reduceEq, Int.reduceLT, Int.reduceLE, run_A, tupK_ok, lstK_ok, compK_ok, ap_tgT_tup, ap_tgT_pr, ap_tgT_lst, sizeLine_eq, Nat.reduceLeDiff, Nat.reduceLT, str_eq, Int.reducePow, Nat.reducePow, Int.reduceToNat, Int.reduceNeg, Int.cast_ofNat_Int, Nat.reduceBNe, hleft, dv_fdiv, dv_mod, hm]
          exact this
        · have := hB hleft
          simp only [ob_ok, ob_stuck, ob_exc, ap_ret, ap_fail, ap_bnd, ap_var, var_fz, var_ow, var_io, var_bw, ap_K, ap_op, op_v, op_o, op_s, ap_val, take_v, take_o, take_s, takeS_fz, takeS_ow, view_v, view_o, view_s, viewS_fz, viewS_ow, viewS_io, viewS_bw, val_lst, val_dic, val_dit, sr_d, sr_nt, sr_ob, sr_no, ap_c1, c1k_some, ap_c2, c2k_some, arg_valm, arg_bwm, arg_iom, bwK_v, bwK_s, ioK_v, ioK_s, sq_nil, sq_cons, ap_cN, cNk_some, vs_nil, vs_cons, vsk_some, av_d, av_s, av_io, ar_nil, ar_cons, ark_some, arg_d, arg_s, arg_i, argS_fz, argS_ow, argS_io, argS_bw, argI_fz, argI_ow, argI_io, df_nil, df_d, df_s, df_io, ix_d, ix_s, ix_io, ap_call, callK_some, callD_true, callR_ok, rt_v, rt_o, ue_nil, ue_cons, uek_none, uek_ow, uek_io, of_nil, of_d, of_s, of_none, of_io, ap_B, br_v, ap_T, tru_non, tru_bl, tru_int, tru_tup, tru_lst, tru_scr, tru_dic, ap_not, notB_ok, ap_if, iteB_true, iteB_false, ap_and, ap_or, ap_andV, ap_orV, ap_notV, seqB_nx, seqB_rt, seqB_bk, seqB_ct, ap_nx, ap_bk, ap_ct, ap_sret, ap_sretN, ap_expr, ap_asg, asg_at, asg_vu, asg_vf, asg_vo, asg_ou, asg_of, asg_oo, asg_su, asg_sf, asg_so, asgJ_ow, asgJ_fz, ap_tgN, tgS_un, tgS_fz, tgS_ow, ap_tgNil, ap_tgCons, ap_asgT, ap_cSeq, sq_lst, sq_scr, sq_str, sq_tup, ap_rg1, ap_rg2, ap_for, for_nil, for_cons, forK_nx, forK_ct, forK_bk, forK_rt, tk_nil, tk_cons, ap_tup, ap_lst, ap_dic0, pm_nil, pm_cons, ap_dic, dicK_ok, ap_sl, slK_v, part_none, ap_kind, kd_dic, ap_get2, g2K_some, ap_get1, g1K_some, ap_oa, oa_ow, oa_io, ap_ot, ot_lst, ot_lstI, ot_dic, ot_dicI, ap_wr, wr_ow, wr_io, wrO_some, wrI_some, ap_set, ap_mut, run_F, runK_ok, fin_at, fin_nx, fin_v, fin_o, fin_s, finS_ow, finS_fz, outs_nil, outs_fz, outs_bw, outs_io, en_at, slot_fz, slot_io, slot_bw, dv_add, dv_sub, dv_neg, dv_eqI, dv_eqS, dv_eqB, dv_neI, dv_neS, dv_neB, dv_lt, dv_le, dv_gt, dv_ge, ixk_some, dv_ixT, dv_ixL, dv_ixR, dv_ixDS, dv_ixDI, dv_slT, dv_slL, dv_slR, dv_lenT, dv_lenL, dv_lenR, dv_lenD, dv_intI, dv_intB, dv_abs, dv_min, dv_max, dv_listT, dv_listL, dv_listR, dv_tupT, dv_tupL, dv_tupR, dv_get2S, dv_get2I, dv_dictD, at0, at1, at2, at3, at4, at5, ap_comp, optC_some, optC_none, cl_nil, cl_cons, wb_nil, wb_cons, wbS_un, wbS_fz, wp_nil, wp_cons, bk_nil, bk_cons, bkS_some, condK_true, condK_false, ap_turn, turnW_true, turnK_ok, ap_yes, ap_part, intK_int, nb_none, nb_some, slK_s, slV_some, pin_un, pin_fz, pin_ow, dv_isiII, dv_isiIB, ap_isi2, isi2K_at, isi2T_some, isi2B_some, ap_chain, chK_some, chS_true, chS_false, inS_some, notInS_some, dv_in, dv_notIn, inB_strsT, inB_strsL, inB_dic, inB_T1, inB_T2, inB_T3, dv_all, dv_any, ty_non, ty_bl, ty_int, ty_str, ty_tup, ty_lst, ty_dic, dv_isi, isiT_some, isiK_some, kb_nn, kb_nb, kb_ns, kb_nt, kb_nl, kb_bi, kb_bb, kb_bs, kb_bt, kb_bl, kb_ii, kb_ib, kb_is, kb_it, kb_il, kb_si, kb_sb, kb_ss, kb_st, kb_sl, kb_ti, kb_tb, kb_ts, kb_tt, kb_tl, kb_li, kb_lb, kb_ls, kb_lt, kb_ll, kb_di, kb_db, kb_ds, kb_dt, kb_dl, i2_n, i2_b, i2_i, i2_s, i2_t, i2_l, List.map_cons, List.map_nil, List.cons_append, List.nil_append, List.replicate_succ, List.replicate_zero, List.append_nil, List.length_cons, List.length_nil, List.getElem?_cons_zero, List.getElem?_cons_succ, List.set_cons_zero, List.set_cons_succ, List.all_cons, List.all_nil, Option.map_some, ↓reduceIte, Nat.reduceAdd, Nat.reduceSub, Nat.reduceEqDiff, Bool.and_true, Bool.true_and, Bool.and_false, Bool.false_and, Bool.not_true, Bool.not_false, Bool.or_false, Bool.or_true, Bool.false_or, Bool.true_or, decide_true, decide_false, eq_self, String.reduceEq, Int.reduceEq, Int.reduceLT, Int.reduceLE, run_A, tupK_ok, lstK_ok, compK_ok, ap_tgT_tup, ap_tgT_pr, ap_tgT_lst, sizeLine_eq, Nat.reduceLeDiff, Nat.reduceLT, str_eq, Int.reducePow, Nat.reducePow, Int.reduceToNat, Int.reduceNeg, Int.cast_ofNat_Int, Nat.reduceBNe, hleft]
          have h2 := htail (.fz (.int left)) s5'
          unfold scD at h2
          rw [h2]
          exact this
      by_cases hleft : 0 < left
      · refine ⟨left / 2 % 500009 % many, Int.emod_nonneg _ (by omega), Int.emod_lt_of_pos _ hm, fun n => hpre n (.ok (.v (.int (left / 2 % 500009 % many))) [none, none, none]) (fun _ => ?_) (fun h => (h hleft).elim)⟩
        simp only [ob_ok, ob_stuck, ob_exc, ap_ret, ap_fail, ap_bnd, ap_var, var_fz, var_ow, var_io, var_bw, ap_K, ap_op, op_v, op_o, op_s, ap_val, take_v, take_o, take_s, takeS_fz, takeS_ow, view_v, view_o, view_s, viewS_fz, viewS_ow, viewS_io, viewS_bw, val_lst, val_dic, val_dit, sr_d, sr_nt, sr_ob, sr_no, ap_c1, c1k_some, ap_c2, c2k_some, arg_valm, arg_bwm, arg_iom, bwK_v, bwK_s, ioK_v, ioK_s, sq_nil, sq_cons, ap_cN, cNk_some, vs_nil, vs_cons, vsk_some, av_d, av_s, av_io, ar_nil, ar_cons, ark_some, arg_d, arg_s, arg_i, argS_fz, argS_ow, argS_io, argS_bw, argI_fz, argI_ow, argI_io, df_nil, df_d, df_s, df_io, ix_d, ix_s, ix_io, ap_call, callK_some, callD_true, callR_ok, rt_v, rt_o, ue_nil, ue_cons, uek_none, uek_ow, uek_io, of_nil, of_d, of_s, of_none, of_io, ap_B, br_v, ap_T, tru_non, tru_bl, tru_int, tru_tup, tru_lst, tru_scr, tru_dic, ap_not, notB_ok, ap_if, iteB_true, iteB_false, ap_and, ap_or, ap_andV, ap_orV, ap_notV, ap_seq, seqB_nx, seqB_rt, seqB_bk, seqB_ct, ap_nx, ap_bk, ap_ct, ap_sret, ap_sretN, ap_expr, ap_asg, asg_at, asg_vu, asg_vf, asg_vo, asg_ou, asg_of, asg_oo, asg_su, asg_sf, asg_so, asgJ_ow, asgJ_fz, ap_tgN, tgS_un, tgS_fz, tgS_ow, ap_tgNil, ap_tgCons, ap_asgT, ap_cSeq, sq_lst, sq_scr, sq_str, sq_tup, ap_rg1, ap_rg2, ap_for, for_nil, for_cons, forK_nx, forK_ct, forK_bk, forK_rt, tk_nil, tk_cons, ap_tup, ap_lst, ap_dic0, pm_nil, pm_cons, ap_dic, dicK_ok, ap_sl, slK_v, part_none, ap_kind, kd_dic, ap_get2, g2K_some, ap_get1, g1K_some, ap_oa, oa_ow, oa_io, ap_ot, ot_lst, ot_lstI, ot_dic, ot_dicI, ap_wr, wr_ow, wr_io, wrO_some, wrI_some, ap_set, ap_mut, run_F, runK_ok, fin_at, fin_nx, fin_v, fin_o, fin_s, finS_ow, finS_fz, outs_nil, outs_fz, outs_bw, outs_io, en_at, slot_fz, slot_io, slot_bw, dv_add, dv_sub, dv_neg, dv_eqI, dv_eqS, dv_eqB, dv_neI, dv_neS, dv_neB, dv_lt, dv_le, dv_gt, dv_ge, ixk_some, dv_ixT, dv_ixL, dv_ixR, dv_ixDS, dv_ixDI, dv_slT, dv_slL, dv_slR, dv_lenT, dv_lenL, dv_lenR, dv_lenD, dv_intI, dv_intB, dv_abs, dv_min, dv_max, dv_listT, dv_listL, dv_listR, dv_tupT, dv_tupL, dv_tupR, dv_get2S, dv_get2I, dv_dictD, at0, at1, at2, at3, at4, at5, ap_comp, optC_some, optC_none, cl_nil, cl_cons, wb_nil, wb_cons, wbS_un, wbS_fz, wp_nil, wp_cons, bk_nil, bk_cons, bkS_some, condK_true, condK_false, ap_turn, turnW_true, turnK_ok, ap_yes, ap_part, intK_int, nb_none, nb_some, slK_s, slV_some, pin_un, pin_fz, pin_ow, dv_isiII, dv_isiIB, ap_isi2, isi2K_at, isi2T_some, isi2B_some, ap_chain, chK_some, chS_true, chS_false, inS_some, notInS_some, dv_in, dv_notIn, inB_strsT, inB_strsL, inB_dic, inB_T1, inB_T2, inB_T3, dv_all, dv_any, ty_non, ty_bl, ty_int, ty_str, ty_tup, ty_lst, ty_dic, dv_isi, isiT_some, isiK_some, kb_nn, kb_nb, kb_ns, kb_nt, kb_nl, kb_bi, kb_bb, kb_bs, kb_bt, kb_bl, kb_ii, kb_ib, kb_is, kb_it, kb_il, kb_si, kb_sb, kb_ss, kb_st, kb_sl, kb_ti, kb_tb, kb_ts, kb_tt, kb_tl, kb_li, kb_lb, kb_ls, kb_lt, kb_ll, kb_di, kb_db, kb_ds, kb_dt, kb_dl, i2_n, i2_b, i2_i, i2_s, i2_t, i2_l, List.map_cons, List.map_nil, List.cons_append, List.nil_append, List.replicate_succ, List.replicate_zero, List.append_nil, List.length_cons, List.length_nil, List.getElem?_cons_zero, List.getElem?_cons_succ, List.set_cons_zero, List.set_cons_succ, List.all_cons, List.all_nil, Option.map_some, ↓reduceIte, Nat.reduceAdd, Nat.reduceSub, Nat.reduceEqDiff, Bool.and_true, Bool.true_and, Bool.and_false, Bool.false_and, Bool.not_true, Bool.not_false, Bool.or_false, Bool.or_true, Bool.false_or, Bool.true_or, decide_true, decide_false, eq_self, String.reduceEq, Int.reduceEq, Int.reduceLT, Int.reduceLE, run_A, tupK_ok, lstK_ok, compK_ok, ap_tgT_tup, ap_tgT_pr, ap_tgT_lst, sizeLine_eq, Nat.reduceLeDiff, Nat.reduceLT, str_eq, Int.reducePow, Nat.reducePow, Int.reduceToNat, Int.reduceNeg, Int.cast_ofNat_Int, Nat.reduceBNe]
      · refine ⟨(c % 1000003 + 31 * k * k + 1) * 48271 % 999983 * 7919 % 524287 % many, hR, hR2, fun n => hpre n (.ok (.v (.int ((c % 1000003 + 31 * k * k + 1) * 48271 % 999983 * 7919 % 524287 % many))) [none, none, none]) (fun h => (hleft h).elim) (fun _ => ?_)⟩
        simp only [ob_ok, ob_stuck, ob_exc, ap_ret, ap_fail, ap_bnd, ap_var, var_fz, var_ow, var_io, var_bw, ap_K, ap_op, op_v, op_o, op_s, ap_val, take_v, take_o, take_s, takeS_fz, takeS_ow, view_v, view_o, view_s, viewS_fz, viewS_ow, viewS_io, viewS_bw, val_lst, val_dic, val_dit, sr_d, sr_nt, sr_ob, sr_no, ap_c1, c1k_some, ap_c2, c2k_some, arg_valm, arg_bwm, arg_iom, bwK_v, bwK_s, ioK_v, ioK_s, sq_nil, sq_cons, ap_cN, cNk_some, vs_nil, vs_cons, vsk_some, av_d, av_s, av_io, ar_nil, ar_cons, ark_some, arg_d, arg_s, arg_i, argS_fz, argS_ow, argS_io, argS_bw, argI_fz, argI_ow, argI_io, df_nil, df_d, df_s, df_io, ix_d, ix_s, ix_io, ap_call, callK_some, callD_true, callR_ok, rt_v, rt_o, ue_nil, ue_cons, uek_none, uek_ow, uek_io, of_nil, of_d, of_s, of_none, of_io, ap_B, br_v, ap_T, tru_non, tru_bl, tru_int, tru_tup, tru_lst, tru_scr, tru_dic, ap_not, notB_ok, ap_if, iteB_true, iteB_false, ap_and, ap_or, ap_andV, ap_orV, ap_notV, ap_seq, seqB_nx, seqB_rt, seqB_bk, seqB_ct, ap_nx, ap_bk, ap_ct, ap_sret, ap_sretN, ap_expr, ap_asg, asg_at, asg_vu, asg_vf, asg_vo, asg_ou, asg_of, asg_oo, asg_su, asg_sf, asg_so, asgJ_ow, asgJ_fz, ap_tgN, tgS_un, tgS_fz, tgS_ow, ap_tgNil, ap_tgCons, ap_asgT, ap_cSeq, sq_lst, sq_scr, sq_str, sq_tup, ap_rg1, ap_rg2, ap_for, for_nil, for_cons, forK_nx, forK_ct, forK_bk, forK_rt, tk_nil, tk_cons, ap_tup, ap_lst, ap_dic0, pm_nil, pm_cons, ap_dic, dicK_ok, ap_sl, slK_v, part_none, ap_kind, kd_dic, ap_get2, g2K_some, ap_get1, g1K_some, ap_oa, oa_ow, oa_io, ap_ot, ot_lst, ot_lstI, ot_dic, ot_dicI, ap_wr, wr_ow, wr_io, wrO_some, wrI_some, ap_set, ap_mut, run_F, runK_ok, fin_at, fin_nx, fin_v, fin_o, fin_s, finS_ow, finS_fz, outs_nil, outs_fz, outs_bw, outs_io, en_at, slot_fz, slot_io, slot_bw, dv_add, dv_sub, dv_neg, dv_eqI, dv_eqS, dv_eqB, dv_neI, dv_neS, dv_neB, dv_lt, dv_le, dv_gt, dv_ge, ixk_some, dv_ixT, dv_ixL, dv_ixR, dv_ixDS, dv_ixDI, dv_slT, dv_slL, dv_slR, dv_lenT, dv_lenL, dv_lenR, dv_lenD, dv_intI, dv_intB, dv_abs, dv_min, dv_max, dv_listT, dv_listL, dv_listR, dv_tupT, dv_tupL, dv_tupR, dv_get2S, dv_get2I, dv_dictD, at0, at1, at2, at3, at4, at5, ap_comp, optC_some, optC_none, cl_nil, cl_cons, wb_nil, wb_cons, wbS_un, wbS_fz, wp_nil, wp_cons, bk_nil, bk_cons, bkS_some, condK_true, condK_false, ap_turn, turnW_true, turnK_ok, ap_yes, ap_part, intK_int, nb_none, nb_some, slK_s, slV_some, pin_un, pin_fz, pin_ow, dv_isiII, dv_isiIB, ap_isi2, isi2K_at, isi2T_some, isi2B_some, ap_chain, chK_some, chS_true, chS_false, inS_some, notInS_some, dv_in, dv_notIn, inB_strsT, inB_strsL, inB_dic, inB_T1, inB_T2, inB_T3, dv_all, dv_any, ty_non, ty_bl, ty_int, ty_str, ty_tup, ty_lst, ty_dic, dv_isi, isiT_some, isiK_some, kb_nn, kb_nb, kb_ns, kb_nt, kb_nl, kb_bi, kb_bb, kb_bs, kb_bt, kb_bl, kb_ii, kb_ib, kb_is, kb_it, kb_il, kb_si, kb_sb, kb_ss, kb_st, kb_sl, kb_ti, kb_tb, kb_ts, kb_tt, kb_tl, kb_li, kb_lb, kb_ls, kb_lt, kb_ll, kb_di, kb_db, kb_ds, kb_dt, kb_dl, i2_n, i2_b, i2_i, i2_s, i2_t, i2_l, List.map_cons, List.map_nil, List.cons_append, List.nil_append, List.replicate_succ, List.replicate_zero, List.append_nil, List.length_cons, List.length_nil, List.getElem?_cons_zero, List.getElem?_cons_succ, List.set_cons_zero, List.set_cons_succ, List.all_cons, List.all_nil, Option.map_some, ↓reduceIte, Nat.reduceAdd, Nat.reduceSub, Nat.reduceEqDiff, Bool.and_true, Bool.true_and, Bool.and_false, Bool.false_and, Bool.not_true, Bool.not_false, Bool.or_false, Bool.or_true, Bool.false_or, Bool.true_or, decide_true, decide_false, eq_self, String.reduceEq, Int.reduceEq, Int.reduceLT, Int.reduceLE, run_A, tupK_ok, lstK_ok, compK_ok, ap_tgT_tup, ap_tgT_pr, ap_tgT_lst, sizeLine_eq, Nat.reduceLeDiff, Nat.reduceLT, str_eq, Int.reducePow, Nat.reducePow, Int.reduceToNat, Int.reduceNeg, Int.cast_ofNat_Int, Nat.reduceBNe]
    rcases q2 with q2 | q2
    · exact fin _ q2
    · exact fin _ q2
  · refine ⟨_, hR, hR2, fun n => ?_⟩
    rw [fn_succ]
    simp only [step, run_A, run_F, en_at, slot_fz, slot_io, slot_bw, List.map_cons, List.map_nil, List.cons_append, List.nil_append, List.replicate_succ, List.replicate_zero, List.append_nil, List.length_cons, List.length_nil, Nat.reduceAdd, Nat.reduceSub, c_law_draw]
    unfold m_law_draw
    rw [ap_seq, ap_asg, hcell _ rfl rfl]
    simp only [ob_ok, ob_stuck, ob_exc, ap_ret, ap_fail, ap_bnd, ap_var, var_fz, var_ow, var_io, var_bw, ap_K, ap_op, op_v, op_o, op_s, ap_val, take_v, take_o, take_s, takeS_fz, takeS_ow, view_v, view_o, view_s, viewS_fz, viewS_ow, viewS_io, viewS_bw, val_lst, val_dic, val_dit, sr_d, sr_nt, sr_ob, sr_no, ap_c1, c1k_some, ap_c2, c2k_some, arg_valm, arg_bwm, arg_iom, bwK_v, bwK_s, ioK_v, ioK_s, sq_nil, sq_cons, ap_cN, cNk_some, vs_nil, vs_cons, vsk_some, av_d, av_s, av_io, ar_nil, ar_cons, ark_some, arg_d, arg_s, arg_i, argS_fz, argS_ow, argS_io, argS_bw, argI_fz, argI_ow, argI_io, df_nil, df_d, df_s, df_io, ix_d, ix_s, ix_io, ap_call, callK_some, callD_true, callR_ok, rt_v, rt_o, ue_nil, ue_cons, uek_none, uek_ow, uek_io, of_nil, of_d, of_s, of_none, of_io, ap_B, br_v, ap_T, tru_non, tru_bl, tru_int, tru_tup, tru_lst, tru_scr, tru_dic, ap_not, notB_ok, ap_if, iteB_true, iteB_false, ap_and, ap_or, ap_andV, ap_orV, ap_notV, seqB_nx, seqB_rt, seqB_bk, seqB_ct, ap_nx, ap_bk, ap_ct, ap_sret, ap_sretN, ap_expr, ap_asg, asg_at, asg_vu, asg_vf, asg_vo, asg_ou, asg_of, asg_oo, asg_su, asg_sf, asg_so, asgJ_ow, asgJ_fz, ap_tgN, tgS_un, tgS_fz, tgS_ow, ap_tgNil, ap_tgCons, ap_asgT, ap_cSeq, sq_lst, sq_scr, sq_str, sq_tup, ap_rg1, ap_rg2, ap_for, for_nil, for_cons, forK_nx, forK_ct, forK_bk, forK_rt, tk_nil, tk_cons, ap_tup, ap_lst, ap_dic0, pm_nil, pm_cons, ap_dic, dicK_ok, ap_sl, slK_v, part_none, ap_kind, kd_dic, ap_get2, g2K_some, ap_get1, g1K_some, ap_oa, oa_ow, oa_io, ap_ot, ot_lst, ot_lstI, ot_dic, ot_dicI, ap_wr, wr_ow, wr_io, wrO_some, wrI_some, ap_set, ap_mut, run_F, runK_ok, fin_at, fin_nx, fin_v, fin_o, fin_s, finS_ow, finS_fz, outs_nil, outs_fz, outs_bw, outs_io, en_at, slot_fz, slot_io, slot_bw, dv_add, dv_sub, dv_neg, dv_eqI, dv_eqS, dv_eqB, dv_neI, dv_neS, dv_neB, dv_lt, dv_le, dv_gt, dv_ge, ixk_some, dv_ixT, dv_ixL, dv_ixR, dv_ixDS, dv_ixDI, dv_slT, dv_slL, dv_slR, dv_lenT, dv_lenL, dv_lenR, dv_lenD, dv_intI, dv_intB, dv_abs, dv_min, dv_max, dv_listT, dv_listL, dv_listR, dv_tupT, dv_tupL, dv_tupR, dv_get2S, dv_get2I, dv_dictD, at0, at1, at2, at3, at4, at5, ap_comp, optC_some, optC_none, cl_nil, cl_cons, wb_nil, wb_cons, wbS_un, wbS_fz, wp_nil, wp_cons, bk_nil, bk_cons, bkS_some, condK_true, condK_false, ap_turn, turnW_true, turnK_ok, ap_yes, ap_part, intK_int, nb_none, nb_some, slK_s, slV_some, pin_un, pin_fz, pin_ow, dv_isiII, dv_isiIB, ap_isi2, isi2K_at, isi2T_some, isi2B_some, ap_chain, chK_some, chS_true, chS_false, inS_some, notInS_some, dv_in, dv_notIn, inB_strsT, inB_strsL, inB_dic, inB_T1, inB_T2, inB_T3, dv_all, dv_any, ty_non, ty_bl, ty_int, ty_str, ty_tup, ty_lst, ty_dic, dv_isi, isiT_some, isiK_some, kb_nn, kb_nb, kb_ns, kb_nt, kb_nl, kb_bi, kb_bb, kb_bs, kb_bt, kb_bl, kb_ii, kb_ib, kb_is, kb_it, kb_il, kb_si, kb_sb, kb_ss, kb_st, kb_sl, kb_ti, kb_tb, kb_ts, kb_tt, kb_tl, kb_li, kb_lb, kb_ls, kb_lt, kb_ll, kb_di, kb_db, kb_ds, kb_dt, kb_dl, i2_n, i2_b, i2_i, i2_s, i2_t, i2_l, List.map_cons, List.map_nil, List.cons_append, List.nil_append, List.replicate_succ, List.replicate_zero, List.append_nil, List.length_cons, List.length_nil, List.getElem?_cons_zero, List.getElem?_cons_succ, List.set_cons_zero, List.set_cons_succ, List.all_cons, List.all_nil, Option.map_some, ↓reduceIte, Nat.reduceAdd, Nat.reduceSub, Nat.reduceEqDiff, Bool.and_true, Bool.true_and, Bool.and_false, Bool.false_and, Bool.not_true, Bool.not_false, Bool.or_false, Bool.or_true, Bool.false_or, Bool.true_or, decide_true, decide_false, eq_self, String.reduceEq, Int.reduceEq, Int.reduceLT, Int.reduceLE, run_A, tupK_ok, lstK_ok, compK_ok, ap_tgT_tup, ap_tgT_pr, ap_tgT_lst, sizeLine_eq, Nat.reduceLeDiff, Nat.reduceLT, str_eq, Int.reducePow, Nat.reducePow, Int.reduceToNat, Int.reduceNeg, Int.cast_ofNat_Int, Nat.reduceBNe]
    rw [ap_seq]
    simp only [ob_ok, ob_stuck, ob_exc, ap_ret, ap_fail, ap_bnd, ap_var, var_fz, var_ow, var_io, var_bw, ap_K, ap_op, op_v, op_o, op_s, ap_val, take_v, take_o, take_s, takeS_fz, takeS_ow, view_v, view_o, view_s, viewS_fz, viewS_ow, viewS_io, viewS_bw, val_lst, val_dic, val_dit, sr_d, sr_nt, sr_ob, sr_no, ap_c1, c1k_some, ap_c2, c2k_some, arg_valm, arg_bwm, arg_iom, bwK_v, bwK_s, ioK_v, ioK_s, sq_nil, sq_cons, ap_cN, cNk_some, vs_nil, vs_cons, vsk_some, av_d, av_s, av_io, ar_nil, ar_cons, ark_some, arg_d, arg_s, arg_i, argS_fz, argS_ow, argS_io, argS_bw, argI_fz, argI_ow, argI_io, df_nil, df_d, df_s, df_io, ix_d, ix_s, ix_io, ap_call, callK_some, callD_true, callR_ok, rt_v, rt_o, ue_nil, ue_cons, uek_none, uek_ow, uek_io, of_nil, of_d, of_s, of_none, of_io, ap_B, br_v, ap_T, tru_non, tru_bl, tru_int, tru_tup, tru_lst, tru_scr, tru_dic, ap_not, notB_ok, ap_if, iteB_true, iteB_false, ap_and, ap_or, ap_andV, ap_orV, ap_notV, seqB_nx, seqB_rt, seqB_bk, seqB_ct, ap_nx, ap_bk, ap_ct, ap_sret, ap_sretN, ap_expr, ap_asg, asg_at, asg_vu, asg_vf, asg_vo, asg_ou, asg_of, asg_oo, asg_su, asg_sf, asg_so, asgJ_ow, asgJ_fz, ap_tgN, tgS_un, tgS_fz, tgS_ow, ap_tgNil, ap_tgCons, ap_asgT, ap_cSeq, sq_lst, sq_scr, sq_str, sq_tup, ap_rg1, ap_rg2, ap_for, for_nil, for_cons, forK_nx, forK_ct, forK_bk, forK_rt, tk_nil, tk_cons, ap_tup, ap_lst, ap_dic0, pm_nil, pm_cons, ap_dic, dicK_ok, ap_sl, slK_v, part_none, ap_kind, kd_dic, ap_get2, g2K_some, ap_get1, g1K_some, ap_oa, oa_ow, oa_io, ap_ot, ot_lst, ot_lstI, ot_dic, ot_dicI, ap_wr, wr_ow, wr_io, wrO_some, wrI_some, ap_set, ap_mut, run_F, runK_ok, fin_at, fin_nx, fin_v, fin_o, fin_s, finS_ow, finS_fz, outs_nil, outs_fz, outs_bw, outs_io, en_at, slot_fz, slot_io, slot_bw, dv_add, dv_sub, dv_neg, dv_eqI, dv_eqS, dv_eqB, dv_neI, dv_neS, dv_neB, dv_lt, dv_le, dv_gt, dv_ge, ixk_some, dv_ixT, dv_ixL, dv_ixR, dv_ixDS, dv_ixDI, dv_slT, dv_slL, dv_slR, dv_lenT, dv_lenL, dv_lenR, dv_lenD, dv_intI, dv_intB, dv_abs, dv_min, dv_max, dv_listT, dv_listL, dv_listR, dv_tupT, dv_tupL, dv_tupR, dv_get2S, dv_get2I, dv_dictD, at0, at1, at2, at3, at4, at5, ap_comp, optC_some, optC_none, cl_nil, cl_cons, wb_nil, wb_cons, wbS_un, wbS_fz, wp_nil, wp_cons, bk_nil, bk_cons, bkS_some, condK_true, condK_false, ap_turn, turnW_true, turnK_ok, ap_yes, ap_part, intK_int, nb_none, nb_some, slK_s, slV_some, pin_un, pin_fz, pin_ow, dv_isiII, dv_isiIB, ap_isi2, isi2K_at, isi2T_some, isi2B_some, ap_chain, chK_some, chS_true, chS_false, inS_some, notInS_some, dv_in, dv_notIn, inB_strsT, inB_strsL, inB_dic, inB_T1, inB_T2, inB_T3, dv_all, dv_any, ty_non, ty_bl, ty_int, ty_str, ty_tup, ty_lst, ty_dic, dv_isi, isiT_some, isiK_some, kb_nn, kb_nb, kb_ns, kb_nt, kb_nl, kb_bi, kb_bb, kb_bs, kb_bt, kb_bl, kb_ii, kb_ib, kb_is, kb_it, kb_il, kb_si, kb_sb, kb_ss, kb_st, kb_sl, kb_ti, kb_tb, kb_ts, kb_tt, kb_tl, kb_li, kb_lb, kb_ls, kb_lt, kb_ll, kb_di, kb_db, kb_ds, kb_dt, kb_dl, i2_n, i2_b, i2_i, i2_s, i2_t, i2_l, List.map_cons, List.map_nil, List.cons_append, List.nil_append, List.replicate_succ, List.replicate_zero, List.append_nil, List.length_cons, List.length_nil, List.getElem?_cons_zero, List.getElem?_cons_succ, List.set_cons_zero, List.set_cons_succ, List.all_cons, List.all_nil, Option.map_some, ↓reduceIte, Nat.reduceAdd, Nat.reduceSub, Nat.reduceEqDiff, Bool.and_true, Bool.true_and, Bool.and_false, Bool.false_and, Bool.not_true, Bool.not_false, Bool.or_false, Bool.or_true, Bool.false_or, Bool.true_or, decide_true, decide_false, eq_self, String.reduceEq, Int.reduceEq, Int.reduceLT, Int.reduceLE, run_A, tupK_ok, lstK_ok, compK_ok, ap_tgT_tup, ap_tgT_pr, ap_tgT_lst, sizeLine_eq, Nat.reduceLeDiff, Nat.reduceLT, str_eq, Int.reducePow, Nat.reducePow, Int.reduceToNat, Int.reduceNeg, Int.cast_ofNat_Int, Nat.reduceBNe]
    rw [ap_seq]
    simp only [ob_ok, ob_stuck, ob_exc, ap_ret, ap_fail, ap_bnd, ap_var, var_fz, var_ow, var_io, var_bw, ap_K, ap_op, op_v, op_o, op_s, ap_val, take_v, take_o, take_s, takeS_fz, takeS_ow, view_v, view_o, view_s, viewS_fz, viewS_ow, viewS_io, viewS_bw, val_lst, val_dic, val_dit, sr_d, sr_nt, sr_ob, sr_no, ap_c1, c1k_some, ap_c2, c2k_some, arg_valm, arg_bwm, arg_iom, bwK_v, bwK_s, ioK_v, ioK_s, sq_nil, sq_cons, ap_cN, cNk_some, vs_nil, vs_cons, vsk_some, av_d, av_s, av_io, ar_nil, ar_cons, ark_some, arg_d, arg_s, arg_i, argS_fz, argS_ow, argS_io, argS_bw, argI_fz, argI_ow, argI_io, df_nil, df_d, df_s, df_io, ix_d, ix_s, ix_io, ap_call, callK_some, callD_true, callR_ok, rt_v, rt_o, ue_nil, ue_cons, uek_none, uek_ow, uek_io, of_nil, of_d, of_s, of_none, of_io, ap_B, br_v, ap_T, tru_non, tru_bl, tru_int, tru_tup, tru_lst, tru_scr, tru_dic, ap_not, notB_ok, ap_if, iteB_true, iteB_false, ap_and, ap_or, ap_andV, ap_orV, ap_notV, seqB_nx, seqB_rt, seqB_bk, seqB_ct, ap_nx, ap_bk, ap_ct, ap_sret, ap_sretN, ap_expr, ap_asg, asg_at, asg_vu, asg_vf, asg_vo, asg_ou, asg_of, asg_oo, asg_su, asg_sf, asg_so, asgJ_ow, asgJ_fz, ap_tgN, tgS_un, tgS_fz, tgS_ow, ap_tgNil, ap_tgCons, ap_asgT, ap_cSeq, sq_lst, sq_scr, sq_str, sq_tup, ap_rg1, ap_rg2, ap_for, for_nil, for_cons, forK_nx, forK_ct, forK_bk, forK_rt, tk_nil, tk_cons, ap_tup, ap_lst, ap_dic0, pm_nil, pm_cons, ap_dic, dicK_ok, ap_sl, slK_v, part_none, ap_kind, kd_dic, ap_get2, g2K_some, ap_get1, g1K_some, ap_oa, oa_ow, oa_io, ap_ot, ot_lst, ot_lstI, ot_dic, ot_dicI, ap_wr, wr_ow, wr_io, wrO_some, wrI_some, ap_set, ap_mut, run_F, runK_ok, fin_at, fin_nx, fin_v, fin_o, fin_s, finS_ow, finS_fz, outs_nil, outs_fz, outs_bw, outs_io, en_at, slot_fz, slot_io, slot_bw, dv_add, dv_sub, dv_neg, dv_eqI, dv_eqS, dv_eqB, dv_neI, dv_neS, dv_neB, dv_lt, dv_le, dv_gt, dv_ge, ixk_some, dv_ixT, dv_ixL, dv_ixR, dv_ixDS, dv_ixDI, dv_slT, dv_slL, dv_slR, dv_lenT, dv_lenL, dv_lenR, dv_lenD, dv_intI, dv_intB, dv_abs, dv_min, dv_max, dv_listT, dv_listL, dv_listR, dv_tupT, dv_tupL, dv_tupR, dv_get2S, dv_get2I, dv_dictD, at0, at1, at2, at3, at4, at5, ap_comp, optC_some, optC_none, cl_nil, cl_cons, wb_nil, wb_cons, wbS_un, wbS_fz, wp_nil, wp_cons, bk_nil, bk_cons, bkS_some, condK_true, condK_false, ap_turn, turnW_true, turnK_ok, ap_yes, ap_part, intK_int, nb_none, nb_some, slK_s, slV_some, pin_un, pin_fz, pin_ow, dv_isiII, dv_isiIB, ap_isi2, isi2K_at, isi2T_some, isi2B_some, ap_chain, chK_some, chS_true, chS_false, inS_some, notInS_some, dv_in, dv_notIn, inB_strsT, inB_strsL, inB_dic, inB_T1, inB_T2, inB_T3, dv_all, dv_any, ty_non, ty_bl, ty_int, ty_str, ty_tup, ty_lst, ty_dic, dv_isi, isiT_some, isiK_some, kb_nn, kb_nb, kb_ns, kb_nt, kb_nl, kb_bi, kb_bb, kb_bs, kb_bt, kb_bl, kb_ii, kb_ib, kb_is, kb_it, kb_il, kb_si, kb_sb, kb_ss, kb_st, kb_sl, kb_ti, kb_tb, kb_ts, kb_tt, kb_tl, kb_li, kb_lb, kb_ls, kb_lt, kb_ll, kb_di, kb_db, kb_ds, kb_dt, kb_dl, i2_n, i2_b, i2_i, i2_s, i2_t, i2_l, List.map_cons, List.map_nil, List.cons_append, List.nil_append, List.replicate_succ, List.replicate_zero, List.append_nil, List.length_cons, List.length_nil, List.getElem?_cons_zero, List.getElem?_cons_succ, List.set_cons_zero, List.set_cons_succ, List.all_cons, List.all_nil, Option.map_some, ↓reduceIte, Nat.reduceAdd, Nat.reduceSub, Nat.reduceEqDiff, Bool.and_true, Bool.true_and, Bool.and_false, Bool.false_and, Bool.not_true, Bool.not_false, Bool.or_false, Bool.or_true, Bool.false_or, Bool.true_or, decide_true, decide_false, eq_self, String.reduceEq, Int.reduceEq, Int.reduceLT, Int.reduceLE, run_A, tupK_ok, lstK_ok, compK_ok, ap_tgT_tup, ap_tgT_pr, ap_tgT_lst, sizeLine_eq, Nat.reduceLeDiff, Nat.reduceLT, str_eq, Int.reducePow, Nat.reducePow, Int.reduceToNat, Int.reduceNeg, Int.cast_ofNat_Int, Nat.reduceBNe, dv_pow, h10, hc]
    rw [htail]
    simp only [ob_ok, ob_stuck, ob_exc, ap_ret, ap_fail, ap_bnd, ap_var, var_fz, var_ow, var_io, var_bw, ap_K, ap_op, op_v, op_o, op_s, ap_val, take_v, take_o, take_s, takeS_fz, takeS_ow, view_v, view_o, view_s, viewS_fz, viewS_ow, viewS_io, viewS_bw, val_lst, val_dic, val_dit, sr_d, sr_nt, sr_ob, sr_no, ap_c1, c1k_some, ap_c2, c2k_some, arg_valm, arg_bwm, arg_iom, bwK_v, bwK_s, ioK_v, ioK_s, sq_nil, sq_cons, ap_cN, cNk_some, vs_nil, vs_cons, vsk_some, av_d, av_s, av_io, ar_nil, ar_cons, ark_some, arg_d, arg_s, arg_i, argS_fz, argS_ow, argS_io, argS_bw, argI_fz, argI_ow, argI_io, df_nil, df_d, df_s, df_io, ix_d, ix_s, ix_io, ap_call, callK_some, callD_true, callR_ok, rt_v, rt_o, ue_nil, ue_cons, uek_none, uek_ow, uek_io, of_nil, of_d, of_s, of_none, of_io, ap_B, br_v, ap_T, tru_non, tru_bl, tru_int, tru_tup, tru_lst, tru_scr, tru_dic, ap_not, notB_ok, ap_if, iteB_true, iteB_false, ap_and, ap_or, ap_andV, ap_orV, ap_notV, ap_seq, seqB_nx, seqB_rt, seqB_bk, seqB_ct, ap_nx, ap_bk, ap_ct, ap_sret, ap_sretN, ap_expr, ap_asg, asg_at, asg_vu, asg_vf, asg_vo, asg_ou, asg_of, asg_oo, asg_su, asg_sf, asg_so, asgJ_ow, asgJ_fz, ap_tgN, tgS_un, tgS_fz, tgS_ow, ap_tgNil, ap_tgCons, ap_asgT, ap_cSeq, sq_lst, sq_scr, sq_str, sq_tup, ap_rg1, ap_rg2, ap_for, for_nil, for_cons, forK_nx, forK_ct, forK_bk, forK_rt, tk_nil, tk_cons, ap_tup, ap_lst, ap_dic0, pm_nil, pm_cons, ap_dic, dicK_ok, ap_sl, slK_v, part_none, ap_kind, kd_dic, ap_get2, g2K_some, ap_get1, g1K_some, ap_oa, oa_ow, oa_io, ap_ot, ot_lst, ot_lstI, ot_dic, ot_dicI, ap_wr, wr_ow, wr_io, wrO_some, wrI_some, ap_set, ap_mut, run_F, runK_ok, fin_at, fin_nx, fin_v, fin_o, fin_s, finS_ow, finS_fz, outs_nil, outs_fz, outs_bw, outs_io, en_at, slot_fz, slot_io, slot_bw, dv_add, dv_sub, dv_neg, dv_eqI, dv_eqS, dv_eqB, dv_neI, dv_neS, dv_neB, dv_lt, dv_le, dv_gt, dv_ge, ixk_some, dv_ixT, dv_ixL, dv_ixR, dv_ixDS, dv_ixDI, dv_slT, dv_slL, dv_slR, dv_lenT, dv_lenL, dv_lenR, dv_lenD, dv_intI, dv_intB, dv_abs, dv_min, dv_max, dv_listT, dv_listL, dv_listR, dv_tupT, dv_tupL, dv_tupR, dv_get2S, dv_get2I, dv_dictD, at0, at1, at2, at3, at4, at5, ap_comp, optC_some, optC_none, cl_nil, cl_cons, wb_nil, wb_cons, wbS_un, wbS_fz, wp_nil, wp_cons, bk_nil, bk_cons, bkS_some, condK_true, condK_false, ap_turn, turnW_true, turnK_ok, ap_yes, ap_part, intK_int, nb_none, nb_some, slK_s, slV_some, pin_un, pin_fz, pin_ow, dv_isiII, dv_isiIB, ap_isi2, isi2K_at, isi2T_some, isi2B_some, ap_chain, chK_some, chS_true, chS_false, inS_some, notInS_some, dv_in, dv_notIn, inB_strsT, inB_strsL, inB_dic, inB_T1, inB_T2, inB_T3, dv_all, dv_any, ty_non, ty_bl, ty_int, ty_str, ty_tup, ty_lst, ty_dic, dv_isi, isiT_some, isiK_some, kb_nn, kb_nb, kb_ns, kb_nt, kb_nl, kb_bi, kb_bb, kb_bs, kb_bt, kb_bl, kb_ii, kb_ib, kb_is, kb_it, kb_il, kb_si, kb_sb, kb_ss, kb_st, kb_sl, kb_ti, kb_tb, kb_ts, kb_tt, kb_tl, kb_li, kb_lb, kb_ls, kb_lt, kb_ll, kb_di, kb_db, kb_ds, kb_dt, kb_dl, i2_n, i2_b, i2_i, i2_s, i2_t, i2_l, List.map_cons, List.map_nil, List.cons_append, List.nil_append, List.replicate_succ, List.replicate_zero, List.append_nil, List.length_cons, List.length_nil, List.getElem?_cons_zero, List.getElem?_cons_succ, List.set_cons_zero, List.set_cons_succ, List.all_cons, List.all_nil, Option.map_some, ↓reduceIte, Nat.reduceAdd, Nat.reduceSub, Nat.reduceEqDiff, Bool.and_true, Bool.true_and, Bool.and_false, Bool.false_and, Bool.not_true, Bool.not_false, Bool.or_false, Bool.or_true, Bool.false_or, Bool.true_or, decide_true, decide_false, eq_self, String.reduceEq, Int.reduceEq, Int.reduceLT, Int.reduceLE, run_A, tupK_ok, lstK_ok, compK_ok, ap_tgT_tup, ap_tgT_pr, ap_tgT_lst, sizeLine_eq, Nat.reduceLeDiff, Nat.reduceLT, str_eq, Int.reducePow, Nat.reducePow, Int.reduceToNat, Int.reduceNeg, Int.cast_ofNat_Int, Nat.reduceBNe]
end K01

namespace K01
open PySem PySem.Spec L2 PyProof.Rows PV
/-! ### sums -/
inductive Op where
  | add | sub | mul | less | same
def Op.w : Op → Str
  | .add => "add"
  | .sub => "sub"
  | .mul => "mul"
  | .less => "less"
  | .same => "same"
inductive Sm where
  | num (v : Int) | of (s : Str) | not (a : Sm) | bin (o : Op) (a b : Sm)
def Sm.d : Sm → D
  | .num v => .tup [.str "num", .int v]
  | .of s => .tup [.str "of", .str s]
  | .not a => .tup [.str "not", a.d]
  | .bin o a b => .tup [.str o.w, a.d, b.d]
def Sm.deep : Sm → Nat
  | .num v => 1
  | .of s => 1
  | .not a => a.deep + 1
  | .bin o a b => max a.deep b.deep + 1
/-- its numbers within their bounds -/
def Sm.ok : Sm → Prop
  | .num v => 0 ≤ v ∧ v ≤ 999
  | .of s => (PyData.str s).canLay0 = true ∧ s.length ≤ 1000
  | .not a => a.ok
  | .bin o a b => a.ok ∧ b.ok
def Op.ev (o : Op) (x y : Int) : Int := match o with
  | .add => (x + y) % 1000
  | .sub => (x - y) % 1000
  | .mul => x * y % 1000
  | .less => if x < y then 1 else 0
  | .same => if x = y then 1 else 0
def Sm.ev (g : Str → Int) : Sm → Int
  | .num v => v
  | .of s => g s
  | .not a => if a.ev g = 0 then 1 else 0
  | .bin o a b => o.ev (a.ev g) (b.ev g)
theorem Op.ev_range (o : Op) (x y : Int) : 0 ≤ o.ev x y ∧ o.ev x y ≤ 999 := by
  cases o <;> unfold Op.ev <;> simp only
  · omega
  · omega
  · constructor
    · exact Int.emod_nonneg _ (by decide)
    · have := Int.emod_lt_of_pos (x * y) (show (0 : Int) < 1000 by decide); omega
  · split <;> omega
  · split <;> omega
theorem Sm.ev_range (g : Str → Int) (hg : ∀ s, 0 ≤ g s ∧ g s ≤ 999) : ∀ s : Sm, s.ok → 0 ≤ s.ev g ∧ s.ev g ≤ 999
  | .num v, h => h
  | .of s, _ => hg s
  | .not a, h => by unfold Sm.ev; split <;> omega
  | .bin o a b, h => Op.ev_range o _ _
theorem ite_t {α : Type} {c : Prop} [Decidable c] (h : c) (a b : α) : (if c then a else b) = a := if_pos h
end K01

namespace K01
open PySem PySem.Spec L2 PyProof.Rows PV
/-! ### the state -/
abbrev LX := Int × Option Int
def stt (ns : List Int) (k : Int) (l : LX) : List (Key × D) := (.inr "script", scD ns) :: (.inr "k", .int k) :: (match l.2 with | none => [] | some l => [(.inr "left", .int l)])
theorem st_script (ns : List Int) (k : Int) (l : LX) : valD (stt ns k l) (.inr "script") = some (scD ns) := by simp [stt, valD]
theorem st_k (ns : List Int) (k : Int) (l : LX) : valD (stt ns k l) (.inr "k") = some (.int k) := by simp [stt, valD, str_eq]
theorem st_left (ns : List Int) (k g l : Int) : valD (stt ns k (g, some l)) (.inr "left") = some (.int l) := by simp [stt, valD, str_eq]
theorem st_putk (ns : List Int) (k j : Int) (l : LX) : putD (stt ns k l) (.inr "k") (.int j) = stt ns j l := by
  obtain ⟨g, l⟩ := l
  cases l <;> simp [stt, putD, str_eq]
theorem st_putl (ns : List Int) (k j : Int) (l : LX) : putD (stt ns k l) (.inr "left") (.int j) = stt ns k (l.1, some j) := by
  obtain ⟨g, l⟩ := l
  cases l <;> simp [stt, putD, str_eq]
theorem st_len (ns : List Int) (k : Int) (l : LX) : (stt ns k l).length < 16777216 := by
  obtain ⟨g, l⟩ := l
  cases l <;> simp [stt]
/-! ### picks -/
theorem pick_spec (ns : List Int) (hl : ns.length ≤ 63) (k many : Int) (l : LX) (hk : 0 ≤ k) (hk2 : k < 2 ^ 32) (hm : 0 < many) : ∃ r, 0 ≤ r ∧ r < many ∧ ∀ n, 2 ≤ n → fn n 6 [.io (.dic (stt ns k l)), .fz (.int many)] = .ok (.v (.int r)) [some (.dic (stt ns (k + 1) l)), none] := by
  obtain ⟨r, r1, r2, r3⟩ := draw_spec ns hl (k + 1) many (by omega) (by omega) hm
  refine ⟨r, r1, r2, fun n hn => ?_⟩
  obtain ⟨n, rfl⟩ : ∃ m, n = m + 2 := ⟨n - 2, by omega⟩
  rw [fn_succ]
  simp only [step, m_law_pick, c_law_pick, ob_ok, ob_stuck, ob_exc, ap_ret, ap_fail, ap_bnd, ap_var, var_fz, var_ow, var_io, var_bw, ap_K, ap_op, op_v, op_o, op_s, ap_val, take_v, take_o, take_s, takeS_fz, takeS_ow, view_v, view_o, view_s, viewS_fz, viewS_ow, viewS_io, viewS_bw, val_lst, val_dic, val_dit, sr_d, sr_nt, sr_ob, sr_no, ap_c1, c1k_some, ap_c2, c2k_some, arg_valm, arg_bwm, arg_iom, bwK_v, bwK_s, ioK_v, ioK_s, sq_nil, sq_cons, ap_cN, cNk_some, vs_nil, vs_cons, vsk_some, av_d, av_s, av_io, ar_nil, ar_cons, ark_some, arg_d, arg_s, arg_i, argS_fz, argS_ow, argS_io, argS_bw, argI_fz, argI_ow, argI_io, df_nil, df_d, df_s, df_io, ix_d, ix_s, ix_io, ap_call, callK_some, callD_true, callR_ok, rt_v, rt_o, ue_nil, ue_cons, uek_none, uek_ow, uek_io, of_nil, of_d, of_s, of_none, of_io, ap_B, br_v, ap_T, tru_non, tru_bl, tru_int, tru_tup, tru_lst, tru_scr, tru_dic, ap_not, notB_ok, ap_if, iteB_true, iteB_false, ap_and, ap_or, ap_andV, ap_orV, ap_notV, ap_seq, seqB_nx, seqB_rt, seqB_bk, seqB_ct, ap_nx, ap_bk, ap_ct, ap_sret, ap_sretN, ap_expr, ap_asg, asg_at, asg_vu, asg_vf, asg_vo, asg_ou, asg_of, asg_oo, asg_su, asg_sf, asg_so, asgJ_ow, asgJ_fz, ap_tgN, tgS_un, tgS_fz, tgS_ow, ap_tgNil, ap_tgCons, ap_asgT, ap_cSeq, sq_lst, sq_scr, sq_str, sq_tup, ap_rg1, ap_rg2, ap_for, for_nil, for_cons, forK_nx, forK_ct, forK_bk, forK_rt, tk_nil, tk_cons, ap_tup, ap_lst, ap_dic0, pm_nil, pm_cons, ap_dic, dicK_ok, ap_sl, slK_v, part_none, ap_kind, kd_dic, ap_get2, g2K_some, ap_get1, g1K_some, ap_oa, oa_ow, oa_io, ap_ot, ot_lst, ot_lstI, ot_dic, ot_dicI, ap_wr, wr_ow, wr_io, wrO_some, wrI_some, ap_set, ap_mut, run_F, runK_ok, fin_at, fin_nx, fin_v, fin_o, fin_s, finS_ow, finS_fz, outs_nil, outs_fz, outs_bw, outs_io, en_at, slot_fz, slot_io, slot_bw, dv_add, dv_sub, dv_neg, dv_eqI, dv_eqS, dv_eqB, dv_neI, dv_neS, dv_neB, dv_lt, dv_le, dv_gt, dv_ge, ixk_some, dv_ixT, dv_ixL, dv_ixR, dv_ixDS, dv_ixDI, dv_slT, dv_slL, dv_slR, dv_lenT, dv_lenL, dv_lenR, dv_lenD, dv_intI, dv_intB, dv_abs, dv_min, dv_max, dv_listT, dv_listL, dv_listR, dv_tupT, dv_tupL, dv_tupR, dv_get2S, dv_get2I, dv_dictD, at0, at1, at2, at3, at4, at5, ap_comp, optC_some, optC_none, cl_nil, cl_cons, wb_nil, wb_cons, wbS_un, wbS_fz, wp_nil, wp_cons, bk_nil, bk_cons, bkS_some, condK_true, condK_false, ap_turn, turnW_true, turnK_ok, ap_yes, ap_part, intK_int, nb_none, nb_some, slK_s, slV_some, pin_un, pin_fz, pin_ow, dv_isiII, dv_isiIB, ap_isi2, isi2K_at, isi2T_some, isi2B_some, ap_chain, chK_some, chS_true, chS_false, inS_some, notInS_some, dv_in, dv_notIn, inB_strsT, inB_strsL, inB_dic, inB_T1, inB_T2, inB_T3, dv_all, dv_any, ty_non, ty_bl, ty_int, ty_str, ty_tup, ty_lst, ty_dic, dv_isi, isiT_some, isiK_some, kb_nn, kb_nb, kb_ns, kb_nt, kb_nl, kb_bi, kb_bb, kb_bs, kb_bt, kb_bl, kb_ii, kb_ib, kb_is, kb_it, kb_il, kb_si, kb_sb, kb_ss, kb_st, kb_sl, kb_ti, kb_tb, kb_ts, kb_tt, kb_tl, kb_li, kb_lb, kb_ls, kb_lt, kb_ll, kb_di, kb_db, kb_ds, kb_dt, kb_dl, i2_n, i2_b, i2_i, i2_s, i2_t, i2_l, List.map_cons, List.map_nil, List.cons_append, List.nil_append, List.replicate_succ, List.replicate_zero, List.append_nil, List.length_cons, List.length_nil, List.getElem?_cons_zero, List.getElem?_cons_succ, List.set_cons_zero, List.set_cons_succ, List.all_cons, List.all_nil, Option.map_some, ↓reduceIte, Nat.reduceAdd, Nat.reduceSub, Nat.reduceEqDiff, Bool.and_true, Bool.true_and, Bool.and_false, Bool.false_and, Bool.not_true, Bool.not_false, Bool.or_false, Bool.or_true, Bool.false_or, Bool.true_or, decide_true, decide_false, eq_self, String.reduceEq, Int.reduceEq, Int.reduceLT, Int.reduceLE, run_A, tupK_ok, lstK_ok, compK_ok, ap_tgT_tup, ap_tgT_pr, ap_tgT_lst, sizeLine_eq, Nat.reduceLeDiff, Nat.reduceLT, str_eq, Int.reducePow, Nat.reducePow, Int.reduceToNat, Int.reduceNeg, Int.cast_ofNat_Int, Nat.reduceBNe, dv_setS, st_len, st_k, st_putk, st_script, r3]
/-! ### names -/
def W30 : List Str := ["a", "ab", "abc", "lets", "leaper", "getit", "puts", "taken", "freed", "sender", "fetched", "says", "clocks", "lots", "hearth", "added", "subway", "mulled", "lesser", "samey", "nothing", "boxes", "locker", "lanes", "doors", "hands", "b", "zzzzzzzz", "of", "num"]
theorem addL (A B : List Str) (h : A.length + B.length ≤ 1000) : addD (.lst (A.map D.str)) (.lst (B.map D.str)) = .ob (.lst ((A ++ B).map D.str)) := by
  rw [dv_addL (by rw [List.length_map, List.length_map, sizeLine_eq]; omega), List.map_append]
theorem W30_nd : W30.Nodup := by decide +kernel
theorem names_spec (ns : List Int) (hl : ns.length ≤ 63) (k : Int) (l : LX) (hk : 0 ≤ k) (hk2 : k < 2 ^ 32) : ∃ L : List Str, L.length = 30 ∧ (∀ z ∈ L, z ∈ W30) ∧ L.Nodup ∧ ∀ n, 3 ≤ n → fn n 7 [.io (.dic (stt ns k l))] = .ok (.o (.lst (L.map D.str))) [some (.dic (stt ns (k + 1) l))] := by
  obtain ⟨r, r1, r2, r3⟩ := pick_spec ns hl k 30 l hk hk2 (by decide)
  have e1 : cutD (W30.map D.str) (some r) none = (W30.drop r.toNat).map D.str := by
    rw [cut_map, PV.sIx_none, sIx_pos r1 (by show r ≤ ((30 : Nat) : Int); omega), List.take_of_length_le (by rw [List.length_drop]; exact Nat.le_refl _)]
  have e2 : cutD (W30.map D.str) none (some r) = (W30.take r.toNat).map D.str := by
    rw [cut_map, PV.sIx_none, sIx_pos r1 (by show r ≤ ((30 : Nat) : Int); omega), List.drop_zero, Nat.sub_zero]
  have sA : ∀ z ∈ W30.drop r.toNat, z ∈ W30 := fun z hz => List.mem_of_mem_drop hz
  have sB : ∀ z ∈ W30.take r.toNat, z ∈ W30 := fun z hz => List.mem_of_mem_take hz
  have hA : (W30.drop r.toNat).length = 30 - r.toNat := by rw [List.length_drop]; rfl
  have hB : (W30.take r.toNat).length = r.toNat := by rw [List.length_take]; show min r.toNat 30 = _; omega
  have hND : (W30.drop r.toNat ++ W30.take r.toNat).Nodup := by
    have h1 := W30_nd
    rw [← List.take_append_drop r.toNat W30] at h1
    exact List.perm_append_comm.nodup h1
  generalize W30.drop r.toNat = A at e1 hA sA hND ⊢
  generalize W30.take r.toNat = B at e2 hB sB hND ⊢
  refine ⟨A ++ B, by rw [List.length_append]; omega, fun z hz => (List.mem_append.mp hz).elim (sA z) (sB z), hND, fun n hn => ?_⟩
  obtain ⟨n, rfl⟩ : ∃ m, n = m + 3 := ⟨n - 3, by omega⟩
  have r4 := r3 (n + 2) (by omega)
  have e3 := addL A B (by omega)
  rw [fn_succ]
  simp only [W30, List.map_cons, List.map_nil] at e1 e2
  simp only [step, m_law_names, c_law_names, ob_ok, ob_stuck, ob_exc, ap_ret, ap_fail, ap_bnd, ap_var, var_fz, var_ow, var_io, var_bw, ap_K, ap_op, op_v, op_o, op_s, ap_val, take_v, take_o, take_s, takeS_fz, takeS_ow, view_v, view_o, view_s, viewS_fz, viewS_ow, viewS_io, viewS_bw, val_lst, val_dic, val_dit, sr_d, sr_nt, sr_ob, sr_no, ap_c1, c1k_some, ap_c2, c2k_some, arg_valm, arg_bwm, arg_iom, bwK_v, bwK_s, ioK_v, ioK_s, sq_nil, sq_cons, ap_cN, cNk_some, vs_nil, vs_cons, vsk_some, av_d, av_s, av_io, ar_nil, ar_cons, ark_some, arg_d, arg_s, arg_i, argS_fz, argS_ow, argS_io, argS_bw, argI_fz, argI_ow, argI_io, df_nil, df_d, df_s, df_io, ix_d, ix_s, ix_io, ap_call, callK_some, callD_true, callR_ok, rt_v, rt_o, ue_nil, ue_cons, uek_none, uek_ow, uek_io, of_nil, of_d, of_s, of_none, of_io, ap_B, br_v, ap_T, tru_non, tru_bl, tru_int, tru_tup, tru_lst, tru_scr, tru_dic, ap_not, notB_ok, ap_if, iteB_true, iteB_false, ap_and, ap_or, ap_andV, ap_orV, ap_notV, ap_seq, seqB_nx, seqB_rt, seqB_bk, seqB_ct, ap_nx, ap_bk, ap_ct, ap_sret, ap_sretN, ap_expr, ap_asg, asg_at, asg_vu, asg_vf, asg_vo, asg_ou, asg_of, asg_oo, asg_su, asg_sf, asg_so, asgJ_ow, asgJ_fz, ap_tgN, tgS_un, tgS_fz, tgS_ow, ap_tgNil, ap_tgCons, ap_asgT, ap_cSeq, sq_lst, sq_scr, sq_str, sq_tup, ap_rg1, ap_rg2, ap_for, for_nil, for_cons, forK_nx, forK_ct, forK_bk, forK_rt, tk_nil, tk_cons, ap_tup, ap_lst, ap_dic0, pm_nil, pm_cons, ap_dic, dicK_ok, ap_sl, slK_v, part_none, ap_kind, kd_dic, ap_get2, g2K_some, ap_get1, g1K_some, ap_oa, oa_ow, oa_io, ap_ot, ot_lst, ot_lstI, ot_dic, ot_dicI, ap_wr, wr_ow, wr_io, wrO_some, wrI_some, ap_set, ap_mut, run_F, runK_ok, fin_at, fin_nx, fin_v, fin_o, fin_s, finS_ow, finS_fz, outs_nil, outs_fz, outs_bw, outs_io, en_at, slot_fz, slot_io, slot_bw, dv_add, dv_sub, dv_neg, dv_eqI, dv_eqS, dv_eqB, dv_neI, dv_neS, dv_neB, dv_lt, dv_le, dv_gt, dv_ge, ixk_some, dv_ixT, dv_ixL, dv_ixR, dv_ixDS, dv_ixDI, dv_slT, dv_slL, dv_slR, dv_lenT, dv_lenL, dv_lenR, dv_lenD, dv_intI, dv_intB, dv_abs, dv_min, dv_max, dv_listT, dv_listL, dv_listR, dv_tupT, dv_tupL, dv_tupR, dv_get2S, dv_get2I, dv_dictD, at0, at1, at2, at3, at4, at5, ap_comp, optC_some, optC_none, cl_nil, cl_cons, wb_nil, wb_cons, wbS_un, wbS_fz, wp_nil, wp_cons, bk_nil, bk_cons, bkS_some, condK_true, condK_false, ap_turn, turnW_true, turnK_ok, ap_yes, ap_part, intK_int, nb_none, nb_some, slK_s, slV_some, pin_un, pin_fz, pin_ow, dv_isiII, dv_isiIB, ap_isi2, isi2K_at, isi2T_some, isi2B_some, ap_chain, chK_some, chS_true, chS_false, inS_some, notInS_some, dv_in, dv_notIn, inB_strsT, inB_strsL, inB_dic, inB_T1, inB_T2, inB_T3, dv_all, dv_any, ty_non, ty_bl, ty_int, ty_str, ty_tup, ty_lst, ty_dic, dv_isi, isiT_some, isiK_some, kb_nn, kb_nb, kb_ns, kb_nt, kb_nl, kb_bi, kb_bb, kb_bs, kb_bt, kb_bl, kb_ii, kb_ib, kb_is, kb_it, kb_il, kb_si, kb_sb, kb_ss, kb_st, kb_sl, kb_ti, kb_tb, kb_ts, kb_tt, kb_tl, kb_li, kb_lb, kb_ls, kb_lt, kb_ll, kb_di, kb_db, kb_ds, kb_dt, kb_dl, i2_n, i2_b, i2_i, i2_s, i2_t, i2_l, List.map_cons, List.map_nil, List.cons_append, List.nil_append, List.replicate_succ, List.replicate_zero, List.append_nil, List.length_cons, List.length_nil, List.getElem?_cons_zero, List.getElem?_cons_succ, List.set_cons_zero, List.set_cons_succ, List.all_cons, List.all_nil, Option.map_some, ↓reduceIte, Nat.reduceAdd, Nat.reduceSub, Nat.reduceEqDiff, Bool.and_true, Bool.true_and, Bool.and_false, Bool.false_and, Bool.not_true, Bool.not_false, Bool.or_false, Bool.or_true, Bool.false_or, Bool.true_or, decide_true, decide_false, eq_self, String.reduceEq, Int.reduceEq, Int.reduceLT, Int.reduceLE, run_A, tupK_ok, lstK_ok, compK_ok, ap_tgT_tup, ap_tgT_pr, ap_tgT_lst, sizeLine_eq, Nat.reduceLeDiff, Nat.reduceLT, str_eq, Int.reducePow, Nat.reducePow, Int.reduceToNat, Int.reduceNeg, Int.cast_ofNat_Int, Nat.reduceBNe, dv_addL, r4, e1, e2, e3]
end K01

namespace K01
open PySem PySem.Spec L2 PyProof.Rows PV
def leafM (call : Nat → FSem) : M Fl :=
  sSeq (cIf (cB (c2 eqD (c2 modD (cVar 3) (cK (.int 2))) (cK (.int 0)))) (sRet (cTup [cK (.str "num"), c2 ixD (cLst [cK (.int 0), cK (.int 1), cK (.int 2), cK (.int 999), cCall (call 6) [cArg .io (cVar 0), cArg .val (cK (.int 1000))]]) (cCall (call 6) [cArg .io (cVar 0), cArg .val (cK (.int 5))])])) (sNx)) <|
  sRet (cTup [cK (.str "of"), c2 ixD (cVar 1) (cCall (call 6) [cArg .io (cVar 0), cArg .val (cN lenD [cArg .bw (cVar 1)])])])
section
variable (ns : List Int) (hl : ns.length ≤ 63) (L : List Str) (hL : 0 < L.length) (hL2 : L.length ≤ 1000) (hL3 : ∀ z ∈ L, (PyData.str z).canLay0 = true ∧ z.length ≤ 1000)
include hl hL hL2 hL3
theorem leaf_spec (k g l dp w : Int) (hk : 0 ≤ k) (hk2 : k + 2 < 2 ^ 32) : ∃ (s : Sm) (k' : Int), s.ok ∧ s.deep = 1 ∧ k ≤ k' ∧ k' ≤ k + 2 ∧ ∀ n, 2 ≤ n → leafM (fn n) [.io (.dic (stt ns k (g, some l))), .fz (.lst (L.map D.str)), .fz (.int dp), .fz (.int w), .un, .un] =
    .ok (.rt (.v s.d)) [.io (.dic (stt ns k' (g, some l))), .fz (.lst (L.map D.str)), .fz (.int dp), .fz (.int w), .un, .un] := by
  by_cases hw : w % 2 = 0
  · obtain ⟨p, p1, p2, p3⟩ := pick_spec ns hl k 1000 (g, some l) hk (by omega) (by decide)
    obtain ⟨q, q1, q2, q3⟩ := pick_spec ns hl (k + 1) 5 (g, some l) (by omega) (by omega) (by decide)
    obtain ⟨v, v1, v2, v3⟩ : ∃ v, 0 ≤ v ∧ v ≤ 999 ∧ atI [D.int 0, D.int 1, D.int 2, D.int 999, D.int p] q = some (.int v) := by
      have : q = 0 ∨ q = 1 ∨ q = 2 ∨ q = 3 ∨ q = 4 := by omega
      rcases this with rfl | rfl | rfl | rfl | rfl
      · exact ⟨0, by decide, by decide, rfl⟩
      · exact ⟨1, by decide, by decide, rfl⟩
      · exact ⟨2, by decide, by decide, rfl⟩
      · exact ⟨999, by decide, by decide, rfl⟩
      · exact ⟨p, p1, by omega, rfl⟩
    refine ⟨.num v, k + 1 + 1, ⟨v1, v2⟩, rfl, by omega, by omega, fun n hn => ?_⟩
    have p4 := p3 n hn
    have q4 := q3 n hn
    unfold leafM
    simp only [ob_ok, ob_stuck, ob_exc, ap_ret, ap_fail, ap_bnd, ap_var, var_fz, var_ow, var_io, var_bw, ap_K, ap_op, op_v, op_o, op_s, ap_val, take_v, take_o, take_s, takeS_fz, takeS_ow, view_v, view_o, view_s, viewS_fz, viewS_ow, viewS_io, viewS_bw, val_lst, val_dic, val_dit, sr_d, sr_nt, sr_ob, sr_no, ap_c1, c1k_some, ap_c2, c2k_some, arg_valm, arg_bwm, arg_iom, bwK_v, bwK_s, ioK_v, ioK_s, sq_nil, sq_cons, ap_cN, cNk_some, vs_nil, vs_cons, vsk_some, av_d, av_s, av_io, ar_nil, ar_cons, ark_some, arg_d, arg_s, arg_i, argS_fz, argS_ow, argS_io, argS_bw, argI_fz, argI_ow, argI_io, df_nil, df_d, df_s, df_io, ix_d, ix_s, ix_io, ap_call, callK_some, callD_true, callR_ok, rt_v, rt_o, ue_nil, ue_cons, uek_none, uek_ow, uek_io, of_nil, of_d, of_s, of_none, of_io, ap_B, br_v, ap_T, tru_non, tru_bl, tru_int, tru_tup, tru_lst, tru_scr, tru_dic, ap_not, notB_ok, ap_if, iteB_true, iteB_false, ap_and, ap_or, ap_andV, ap_orV, ap_notV, ap_seq, seqB_nx, seqB_rt, seqB_bk, seqB_ct, ap_nx, ap_bk, ap_ct, ap_sret, ap_sretN, ap_expr, ap_asg, asg_at, asg_vu, asg_vf, asg_vo, asg_ou, asg_of, asg_oo, asg_su, asg_sf, asg_so, asgJ_ow, asgJ_fz, ap_tgN, tgS_un, tgS_fz, tgS_ow, ap_tgNil, ap_tgCons, ap_asgT, ap_cSeq, sq_lst, sq_scr, sq_str, sq_tup, ap_rg1, ap_rg2, ap_for, for_nil, for_cons, forK_nx, forK_ct, forK_bk, forK_rt, tk_nil, tk_cons, ap_tup, ap_lst, ap_dic0, pm_nil, pm_cons, ap_dic, dicK_ok, ap_sl, slK_v, part_none, ap_kind, kd_dic, ap_get2, g2K_some, ap_get1, g1K_some, ap_oa, oa_ow, oa_io, ap_ot, ot_lst, ot_lstI, ot_dic, ot_dicI, ap_wr, wr_ow, wr_io, wrO_some, wrI_some, ap_set, ap_mut, run_F, runK_ok, fin_at, fin_nx, fin_v, fin_o, fin_s, finS_ow, finS_fz, outs_nil, outs_fz, outs_bw, outs_io, en_at, slot_fz, slot_io, slot_bw, dv_add, dv_sub, dv_neg, dv_eqI, dv_eqS, dv_eqB, dv_neI, dv_neS, dv_neB, dv_lt, dv_le, dv_gt, dv_ge, ixk_some, dv_ixT, dv_ixL, dv_ixR, dv_ixDS, dv_ixDI, dv_slT, dv_slL, dv_slR, dv_lenT, dv_lenL, dv_lenR, dv_lenD, dv_intI, dv_intB, dv_abs, dv_min, dv_max, dv_listT, dv_listL, dv_listR, dv_tupT, dv_tupL, dv_tupR, dv_get2S, dv_get2I, dv_dictD, at0, at1, at2, at3, at4, at5, ap_comp, optC_some, optC_none, cl_nil, cl_cons, wb_nil, wb_cons, wbS_un, wbS_fz, wp_nil, wp_cons, bk_nil, bk_cons, bkS_some, condK_true, condK_false, ap_turn, turnW_true, turnK_ok, ap_yes, ap_part, intK_int, nb_none, nb_some, slK_s, slV_some, pin_un, pin_fz, pin_ow, dv_isiII, dv_isiIB, ap_isi2, isi2K_at, isi2T_some, isi2B_some, ap_chain, chK_some, chS_true, chS_false, inS_some, notInS_some, dv_in, dv_notIn, inB_strsT, inB_strsL, inB_dic, inB_T1, inB_T2, inB_T3, dv_all, dv_any, ty_non, ty_bl, ty_int, ty_str, ty_tup, ty_lst, ty_dic, dv_isi, isiT_some, isiK_some, kb_nn, kb_nb, kb_ns, kb_nt, kb_nl, kb_bi, kb_bb, kb_bs, kb_bt, kb_bl, kb_ii, kb_ib, kb_is, kb_it, kb_il, kb_si, kb_sb, kb_ss, kb_st, kb_sl, kb_ti, kb_tb, kb_ts, kb_tt, kb_tl, kb_li, kb_lb, kb_ls, kb_lt, kb_ll, kb_di, kb_db, kb_ds, kb_dt, kb_dl, i2_n, i2_b, i2_i, i2_s, i2_t, i2_l, List.map_cons, List.map_nil, List.cons_append, List.nil_append, List.replicate_succ, List.replicate_zero, List.append_nil, List.length_cons, List.length_nil, List.getElem?_cons_zero, List.getElem?_cons_succ, List.set_cons_zero, List.set_cons_succ, List.all_cons, List.all_nil, Option.map_some, ↓reduceIte, Nat.reduceAdd, Nat.reduceSub, Nat.reduceEqDiff, Bool.and_true, Bool.true_and, Bool.and_false, Bool.false_and, Bool.not_true, Bool.not_false, Bool.or_false, Bool.or_true, Bool.false_or, Bool.true_or, decide_true, decide_false, eq_self, String.reduceEq, Int.reduceEq, Int.reduceLT, Int.reduceLE, run_A, tupK_ok, lstK_ok, compK_ok, ap_tgT_tup, ap_tgT_pr, ap_tgT_lst, sizeLine_eq, Nat.reduceLeDiff, Nat.reduceLT, str_eq, Int.reducePow, Nat.reducePow, Int.reduceToNat, Int.reduceNeg, Int.cast_ofNat_Int, Nat.reduceBNe, dv_mod, hw, p4, q4, v3, Sm.d]
  · obtain ⟨q, q1, q2, q3⟩ := pick_spec ns hl k (L.length : Int) (g, some l) hk (by omega) (by omega)
    have hi : q.toNat < L.length := by omega
    have hat : atI (L.map D.str) q = some (.str L[q.toNat]) := at_of q1 (by rw [List.getElem?_map, List.getElem?_eq_getElem hi]; rfl)
    refine ⟨.of L[q.toNat], k + 1, hL3 _ (List.getElem_mem hi), rfl, by omega, by omega, fun n hn => ?_⟩
    have q4 := q3 n hn
    unfold leafM
    simp only [ob_ok, ob_stuck, ob_exc, ap_ret, ap_fail, ap_bnd, ap_var, var_fz, var_ow, var_io, var_bw, ap_K, ap_op, op_v, op_o, op_s, ap_val, take_v, take_o, take_s, takeS_fz, takeS_ow, view_v, view_o, view_s, viewS_fz, viewS_ow, viewS_io, viewS_bw, val_lst, val_dic, val_dit, sr_d, sr_nt, sr_ob, sr_no, ap_c1, c1k_some, ap_c2, c2k_some, arg_valm, arg_bwm, arg_iom, bwK_v, bwK_s, ioK_v, ioK_s, sq_nil, sq_cons, ap_cN, cNk_some, vs_nil, vs_cons, vsk_some, av_d, av_s, av_io, ar_nil, ar_cons, ark_some, arg_d, arg_s, arg_i, argS_fz, argS_ow, argS_io, argS_bw, argI_fz, argI_ow, argI_io, df_nil, df_d, df_s, df_io, ix_d, ix_s, ix_io, ap_call, callK_some, callD_true, callR_ok, rt_v, rt_o, ue_nil, ue_cons, uek_none, uek_ow, uek_io, of_nil, of_d, of_s, of_none, of_io, ap_B, br_v, ap_T, tru_non, tru_bl, tru_int, tru_tup, tru_lst, tru_scr, tru_dic, ap_not, notB_ok, ap_if, iteB_true, iteB_false, ap_and, ap_or, ap_andV, ap_orV, ap_notV, ap_seq, seqB_nx, seqB_rt, seqB_bk, seqB_ct, ap_nx, ap_bk, ap_ct, ap_sret, ap_sretN, ap_expr, ap_asg, asg_at, asg_vu, asg_vf, asg_vo, asg_ou, asg_of, asg_oo, asg_su, asg_sf, asg_so, asgJ_ow, asgJ_fz, ap_tgN, tgS_un, tgS_fz, tgS_ow, ap_tgNil, ap_tgCons, ap_asgT, ap_cSeq, sq_lst, sq_scr, sq_str, sq_tup, ap_rg1, ap_rg2, ap_for, for_nil, for_cons, forK_nx, forK_ct, forK_bk, forK_rt, tk_nil, tk_cons, ap_tup, ap_lst, ap_dic0, pm_nil, pm_cons, ap_dic, dicK_ok, ap_sl, slK_v, part_none, ap_kind, kd_dic, ap_get2, g2K_some, ap_get1, g1K_some, ap_oa, oa_ow, oa_io, ap_ot, ot_lst, ot_lstI, ot_dic, ot_dicI, ap_wr, wr_ow, wr_io, wrO_some, wrI_some, ap_set, ap_mut, run_F, runK_ok, fin_at, fin_nx, fin_v, fin_o, fin_s, finS_ow, finS_fz, outs_nil, outs_fz, outs_bw, outs_io, en_at, slot_fz, slot_io, slot_bw, dv_add, dv_sub, dv_neg, dv_eqI, dv_eqS, dv_eqB, dv_neI, dv_neS, dv_neB, dv_lt, dv_le, dv_gt, dv_ge, ixk_some, dv_ixT, dv_ixL, dv_ixR, dv_ixDS, dv_ixDI, dv_slT, dv_slL, dv_slR, dv_lenT, dv_lenL, dv_lenR, dv_lenD, dv_intI, dv_intB, dv_abs, dv_min, dv_max, dv_listT, dv_listL, dv_listR, dv_tupT, dv_tupL, dv_tupR, dv_get2S, dv_get2I, dv_dictD, at0, at1, at2, at3, at4, at5, ap_comp, optC_some, optC_none, cl_nil, cl_cons, wb_nil, wb_cons, wbS_un, wbS_fz, wp_nil, wp_cons, bk_nil, bk_cons, bkS_some, condK_true, condK_false, ap_turn, turnW_true, turnK_ok, ap_yes, ap_part, intK_int, nb_none, nb_some, slK_s, slV_some, pin_un, pin_fz, pin_ow, dv_isiII, dv_isiIB, ap_isi2, isi2K_at, isi2T_some, isi2B_some, ap_chain, chK_some, chS_true, chS_false, inS_some, notInS_some, dv_in, dv_notIn, inB_strsT, inB_strsL, inB_dic, inB_T1, inB_T2, inB_T3, dv_all, dv_any, ty_non, ty_bl, ty_int, ty_str, ty_tup, ty_lst, ty_dic, dv_isi, isiT_some, isiK_some, kb_nn, kb_nb, kb_ns, kb_nt, kb_nl, kb_bi, kb_bb, kb_bs, kb_bt, kb_bl, kb_ii, kb_ib, kb_is, kb_it, kb_il, kb_si, kb_sb, kb_ss, kb_st, kb_sl, kb_ti, kb_tb, kb_ts, kb_tt, kb_tl, kb_li, kb_lb, kb_ls, kb_lt, kb_ll, kb_di, kb_db, kb_ds, kb_dt, kb_dl, i2_n, i2_b, i2_i, i2_s, i2_t, i2_l, List.map_cons, List.map_nil, List.cons_append, List.nil_append, List.replicate_succ, List.replicate_zero, List.append_nil, List.length_cons, List.length_nil, List.getElem?_cons_zero, List.getElem?_cons_succ, List.set_cons_zero, List.set_cons_succ, List.all_cons, List.all_nil, Option.map_some, ↓reduceIte, Nat.reduceAdd, Nat.reduceSub, Nat.reduceEqDiff, Bool.and_true, Bool.true_and, Bool.and_false, Bool.false_and, Bool.not_true, Bool.not_false, Bool.or_false, Bool.or_true, Bool.false_or, Bool.true_or, decide_true, decide_false, eq_self, String.reduceEq, Int.reduceEq, Int.reduceLT, Int.reduceLE, run_A, tupK_ok, lstK_ok, compK_ok, ap_tgT_tup, ap_tgT_pr, ap_tgT_lst, sizeLine_eq, Nat.reduceLeDiff, Nat.reduceLT, str_eq, Int.reducePow, Nat.reducePow, Int.reduceToNat, Int.reduceNeg, Int.cast_ofNat_Int, Nat.reduceBNe, dv_mod, hw, List.length_map, q4, hat, Sm.d]
def TT : Nat → Int
  | 0 => 3
  | m + 1 => 2 * TT m + 2
theorem sum_in_spec (g : Int) : ∀ (m : Nat) (k l dp : Int), dp + m = 5 → 0 ≤ k → k + TT m < 2 ^ 32 → ∃ (s : Sm) (k' l' : Int), s.ok ∧ s.deep ≤ m + 1 ∧ k ≤ k' ∧ k' ≤ k + TT m ∧
    ∀ n, m + 3 ≤ n → fn n 8 [.io (.dic (stt ns k (g, some l))), .fz (.lst (L.map D.str)), .fz (.int dp)] = .ok (.v s.d) [some (.dic (stt ns k' (g, some l'))), none, none] := by
  intro m
  have hT : ∀ m, 3 ≤ TT m := by
    intro m
    induction m with
    | zero => decide
    | succ m ih => unfold TT; omega
  induction m with
  | zero =>
    intro k l dp hdp hk hk2
    have hd : ¬ (dp < 5) := by omega
    have t0 : TT 0 = 3 := rfl
    obtain ⟨w, w1, w2, w3⟩ := pick_spec ns hl k 9 (g, some l) hk (by omega) (by decide)
    obtain ⟨s, k', s1, s2, s3, s4, s5⟩ := leaf_spec ns hl L hL hL2 hL3 (k + 1) g l dp w (by omega) (by omega)
    refine ⟨s, k', l, s1, by omega, by omega, by omega, fun n hn => ?_⟩
    obtain ⟨n, rfl⟩ : ∃ m, n = m + 1 := ⟨n - 1, by omega⟩
    have w4 := w3 n (by omega)
    have s6 := s5 n (by omega)
    rw [fn_succ]
    simp only [step, run_A, run_F, en_at, slot_fz, slot_io, slot_bw, List.map_cons, List.map_nil, List.cons_append, List.nil_append, List.replicate_succ, List.replicate_zero, List.append_nil, List.length_cons, List.length_nil, Nat.reduceAdd, Nat.reduceSub, c_law_sum_in]
    unfold m_law_sum_in
    rw [ap_seq]
    simp only [ob_ok, ob_stuck, ob_exc, ap_ret, ap_fail, ap_bnd, ap_var, var_fz, var_ow, var_io, var_bw, ap_K, ap_op, op_v, op_o, op_s, ap_val, take_v, take_o, take_s, takeS_fz, takeS_ow, view_v, view_o, view_s, viewS_fz, viewS_ow, viewS_io, viewS_bw, val_lst, val_dic, val_dit, sr_d, sr_nt, sr_ob, sr_no, ap_c1, c1k_some, ap_c2, c2k_some, arg_valm, arg_bwm, arg_iom, bwK_v, bwK_s, ioK_v, ioK_s, sq_nil, sq_cons, ap_cN, cNk_some, vs_nil, vs_cons, vsk_some, av_d, av_s, av_io, ar_nil, ar_cons, ark_some, arg_d, arg_s, arg_i, argS_fz, argS_ow, argS_io, argS_bw, argI_fz, argI_ow, argI_io, df_nil, df_d, df_s, df_io, ix_d, ix_s, ix_io, ap_call, callK_some, callD_true, callR_ok, rt_v, rt_o, ue_nil, ue_cons, uek_none, uek_ow, uek_io, of_nil, of_d, of_s, of_none, of_io, ap_B, br_v, ap_T, tru_non, tru_bl, tru_int, tru_tup, tru_lst, tru_scr, tru_dic, ap_not, notB_ok, ap_if, iteB_true, iteB_false, ap_and, ap_or, ap_andV, ap_orV, ap_notV, seqB_nx, seqB_rt, seqB_bk, seqB_ct, ap_nx, ap_bk, ap_ct, ap_sret, ap_sretN, ap_expr, ap_asg, asg_at, asg_vu, asg_vf, asg_vo, asg_ou, asg_of, asg_oo, asg_su, asg_sf, asg_so, asgJ_ow, asgJ_fz, ap_tgN, tgS_un, tgS_fz, tgS_ow, ap_tgNil, ap_tgCons, ap_asgT, ap_cSeq, sq_lst, sq_scr, sq_str, sq_tup, ap_rg1, ap_rg2, ap_for, for_nil, for_cons, forK_nx, forK_ct, forK_bk, forK_rt, tk_nil, tk_cons, ap_tup, ap_lst, ap_dic0, pm_nil, pm_cons, ap_dic, dicK_ok, ap_sl, slK_v, part_none, ap_kind, kd_dic, ap_get2, g2K_some, ap_get1, g1K_some, ap_oa, oa_ow, oa_io, ap_ot, ot_lst, ot_lstI, ot_dic, ot_dicI, ap_wr, wr_ow, wr_io, wrO_some, wrI_some, ap_set, ap_mut, run_F, runK_ok, fin_at, fin_nx, fin_v, fin_o, fin_s, finS_ow, finS_fz, outs_nil, outs_fz, outs_bw, outs_io, en_at, slot_fz, slot_io, slot_bw, dv_add, dv_sub, dv_neg, dv_eqI, dv_eqS, dv_eqB, dv_neI, dv_neS, dv_neB, dv_lt, dv_le, dv_gt, dv_ge, ixk_some, dv_ixT, dv_ixL, dv_ixR, dv_ixDS, dv_ixDI, dv_slT, dv_slL, dv_slR, dv_lenT, dv_lenL, dv_lenR, dv_lenD, dv_intI, dv_intB, dv_abs, dv_min, dv_max, dv_listT, dv_listL, dv_listR, dv_tupT, dv_tupL, dv_tupR, dv_get2S, dv_get2I, dv_dictD, at0, at1, at2, at3, at4, at5, ap_comp, optC_some, optC_none, cl_nil, cl_cons, wb_nil, wb_cons, wbS_un, wbS_fz, wp_nil, wp_cons, bk_nil, bk_cons, bkS_some, condK_true, condK_false, ap_turn, turnW_true, turnK_ok, ap_yes, ap_part, intK_int, nb_none, nb_some, slK_s, slV_some, pin_un, pin_fz, pin_ow, dv_isiII, dv_isiIB, ap_isi2, isi2K_at, isi2T_some, isi2B_some, ap_chain, chK_some, chS_true, chS_false, inS_some, notInS_some, dv_in, dv_notIn, inB_strsT, inB_strsL, inB_dic, inB_T1, inB_T2, inB_T3, dv_all, dv_any, ty_non, ty_bl, ty_int, ty_str, ty_tup, ty_lst, ty_dic, dv_isi, isiT_some, isiK_some, kb_nn, kb_nb, kb_ns, kb_nt, kb_nl, kb_bi, kb_bb, kb_bs, kb_bt, kb_bl, kb_ii, kb_ib, kb_is, kb_it, kb_il, kb_si, kb_sb, kb_ss, kb_st, kb_sl, kb_ti, kb_tb, kb_ts, kb_tt, kb_tl, kb_li, kb_lb, kb_ls, kb_lt, kb_ll, kb_di, kb_db, kb_ds, kb_dt, kb_dl, i2_n, i2_b, i2_i, i2_s, i2_t, i2_l, List.map_cons, List.map_nil, List.cons_append, List.nil_append, List.replicate_succ, List.replicate_zero, List.append_nil, List.length_cons, List.length_nil, List.getElem?_cons_zero, List.getElem?_cons_succ, List.set_cons_zero, List.set_cons_succ, List.all_cons, List.all_nil, Option.map_some, ↓reduceIte, Nat.reduceAdd, Nat.reduceSub, Nat.reduceEqDiff, Bool.and_true, Bool.true_and, Bool.and_false, Bool.false_and, Bool.not_true, Bool.not_false, Bool.or_false, Bool.or_true, Bool.false_or, Bool.true_or, decide_true, decide_false, eq_self, String.reduceEq, Int.reduceEq, Int.reduceLT, Int.reduceLE, run_A, tupK_ok, lstK_ok, compK_ok, ap_tgT_tup, ap_tgT_pr, ap_tgT_lst, sizeLine_eq, Nat.reduceLeDiff, Nat.reduceLT, str_eq, Int.reducePow, Nat.reducePow, Int.reduceToNat, Int.reduceNeg, Int.cast_ofNat_Int, Nat.reduceBNe, w4]
    rw [ap_seq]
    simp only [ob_ok, ob_stuck, ob_exc, ap_ret, ap_fail, ap_bnd, ap_var, var_fz, var_ow, var_io, var_bw, ap_K, ap_op, op_v, op_o, op_s, ap_val, take_v, take_o, take_s, takeS_fz, takeS_ow, view_v, view_o, view_s, viewS_fz, viewS_ow, viewS_io, viewS_bw, val_lst, val_dic, val_dit, sr_d, sr_nt, sr_ob, sr_no, ap_c1, c1k_some, ap_c2, c2k_some, arg_valm, arg_bwm, arg_iom, bwK_v, bwK_s, ioK_v, ioK_s, sq_nil, sq_cons, ap_cN, cNk_some, vs_nil, vs_cons, vsk_some, av_d, av_s, av_io, ar_nil, ar_cons, ark_some, arg_d, arg_s, arg_i, argS_fz, argS_ow, argS_io, argS_bw, argI_fz, argI_ow, argI_io, df_nil, df_d, df_s, df_io, ix_d, ix_s, ix_io, ap_call, callK_some, callD_true, callR_ok, rt_v, rt_o, ue_nil, ue_cons, uek_none, uek_ow, uek_io, of_nil, of_d, of_s, of_none, of_io, ap_B, br_v, ap_T, tru_non, tru_bl, tru_int, tru_tup, tru_lst, tru_scr, tru_dic, ap_not, notB_ok, ap_if, iteB_true, iteB_false, ap_and, ap_or, ap_andV, ap_orV, ap_notV, seqB_nx, seqB_rt, seqB_bk, seqB_ct, ap_nx, ap_bk, ap_ct, ap_sret, ap_sretN, ap_expr, ap_asg, asg_at, asg_vu, asg_vf, asg_vo, asg_ou, asg_of, asg_oo, asg_su, asg_sf, asg_so, asgJ_ow, asgJ_fz, ap_tgN, tgS_un, tgS_fz, tgS_ow, ap_tgNil, ap_tgCons, ap_asgT, ap_cSeq, sq_lst, sq_scr, sq_str, sq_tup, ap_rg1, ap_rg2, ap_for, for_nil, for_cons, forK_nx, forK_ct, forK_bk, forK_rt, tk_nil, tk_cons, ap_tup, ap_lst, ap_dic0, pm_nil, pm_cons, ap_dic, dicK_ok, ap_sl, slK_v, part_none, ap_kind, kd_dic, ap_get2, g2K_some, ap_get1, g1K_some, ap_oa, oa_ow, oa_io, ap_ot, ot_lst, ot_lstI, ot_dic, ot_dicI, ap_wr, wr_ow, wr_io, wrO_some, wrI_some, ap_set, ap_mut, run_F, runK_ok, fin_at, fin_nx, fin_v, fin_o, fin_s, finS_ow, finS_fz, outs_nil, outs_fz, outs_bw, outs_io, en_at, slot_fz, slot_io, slot_bw, dv_add, dv_sub, dv_neg, dv_eqI, dv_eqS, dv_eqB, dv_neI, dv_neS, dv_neB, dv_lt, dv_le, dv_gt, dv_ge, ixk_some, dv_ixT, dv_ixL, dv_ixR, dv_ixDS, dv_ixDI, dv_slT, dv_slL, dv_slR, dv_lenT, dv_lenL, dv_lenR, dv_lenD, dv_intI, dv_intB, dv_abs, dv_min, dv_max, dv_listT, dv_listL, dv_listR, dv_tupT, dv_tupL, dv_tupR, dv_get2S, dv_get2I, dv_dictD, at0, at1, at2, at3, at4, at5, ap_comp, optC_some, optC_none, cl_nil, cl_cons, wb_nil, wb_cons, wbS_un, wbS_fz, wp_nil, wp_cons, bk_nil, bk_cons, bkS_some, condK_true, condK_false, ap_turn, turnW_true, turnK_ok, ap_yes, ap_part, intK_int, nb_none, nb_some, slK_s, slV_some, pin_un, pin_fz, pin_ow, dv_isiII, dv_isiIB, ap_isi2, isi2K_at, isi2T_some, isi2B_some, ap_chain, chK_some, chS_true, chS_false, inS_some, notInS_some, dv_in, dv_notIn, inB_strsT, inB_strsL, inB_dic, inB_T1, inB_T2, inB_T3, dv_all, dv_any, ty_non, ty_bl, ty_int, ty_str, ty_tup, ty_lst, ty_dic, dv_isi, isiT_some, isiK_some, kb_nn, kb_nb, kb_ns, kb_nt, kb_nl, kb_bi, kb_bb, kb_bs, kb_bt, kb_bl, kb_ii, kb_ib, kb_is, kb_it, kb_il, kb_si, kb_sb, kb_ss, kb_st, kb_sl, kb_ti, kb_tb, kb_ts, kb_tt, kb_tl, kb_li, kb_lb, kb_ls, kb_lt, kb_ll, kb_di, kb_db, kb_ds, kb_dt, kb_dl, i2_n, i2_b, i2_i, i2_s, i2_t, i2_l, List.map_cons, List.map_nil, List.cons_append, List.nil_append, List.replicate_succ, List.replicate_zero, List.append_nil, List.length_cons, List.length_nil, List.getElem?_cons_zero, List.getElem?_cons_succ, List.set_cons_zero, List.set_cons_succ, List.all_cons, List.all_nil, Option.map_some, ↓reduceIte, Nat.reduceAdd, Nat.reduceSub, Nat.reduceEqDiff, Bool.and_true, Bool.true_and, Bool.and_false, Bool.false_and, Bool.not_true, Bool.not_false, Bool.or_false, Bool.or_true, Bool.false_or, Bool.true_or, decide_true, decide_false, eq_self, String.reduceEq, Int.reduceEq, Int.reduceLT, Int.reduceLE, run_A, tupK_ok, lstK_ok, compK_ok, ap_tgT_tup, ap_tgT_pr, ap_tgT_lst, sizeLine_eq, Nat.reduceLeDiff, Nat.reduceLT, str_eq, Int.reducePow, Nat.reducePow, Int.reduceToNat, Int.reduceNeg, Int.cast_ofNat_Int, Nat.reduceBNe, ap_and, hd]
    rw [ap_seq]
    simp only [ob_ok, ob_stuck, ob_exc, ap_ret, ap_fail, ap_bnd, ap_var, var_fz, var_ow, var_io, var_bw, ap_K, ap_op, op_v, op_o, op_s, ap_val, take_v, take_o, take_s, takeS_fz, takeS_ow, view_v, view_o, view_s, viewS_fz, viewS_ow, viewS_io, viewS_bw, val_lst, val_dic, val_dit, sr_d, sr_nt, sr_ob, sr_no, ap_c1, c1k_some, ap_c2, c2k_some, arg_valm, arg_bwm, arg_iom, bwK_v, bwK_s, ioK_v, ioK_s, sq_nil, sq_cons, ap_cN, cNk_some, vs_nil, vs_cons, vsk_some, av_d, av_s, av_io, ar_nil, ar_cons, ark_some, arg_d, arg_s, arg_i, argS_fz, argS_ow, argS_io, argS_bw, argI_fz, argI_ow, argI_io, df_nil, df_d, df_s, df_io, ix_d, ix_s, ix_io, ap_call, callK_some, callD_true, callR_ok, rt_v, rt_o, ue_nil, ue_cons, uek_none, uek_ow, uek_io, of_nil, of_d, of_s, of_none, of_io, ap_B, br_v, ap_T, tru_non, tru_bl, tru_int, tru_tup, tru_lst, tru_scr, tru_dic, ap_not, notB_ok, ap_if, iteB_true, iteB_false, ap_and, ap_or, ap_andV, ap_orV, ap_notV, seqB_nx, seqB_rt, seqB_bk, seqB_ct, ap_nx, ap_bk, ap_ct, ap_sret, ap_sretN, ap_expr, ap_asg, asg_at, asg_vu, asg_vf, asg_vo, asg_ou, asg_of, asg_oo, asg_su, asg_sf, asg_so, asgJ_ow, asgJ_fz, ap_tgN, tgS_un, tgS_fz, tgS_ow, ap_tgNil, ap_tgCons, ap_asgT, ap_cSeq, sq_lst, sq_scr, sq_str, sq_tup, ap_rg1, ap_rg2, ap_for, for_nil, for_cons, forK_nx, forK_ct, forK_bk, forK_rt, tk_nil, tk_cons, ap_tup, ap_lst, ap_dic0, pm_nil, pm_cons, ap_dic, dicK_ok, ap_sl, slK_v, part_none, ap_kind, kd_dic, ap_get2, g2K_some, ap_get1, g1K_some, ap_oa, oa_ow, oa_io, ap_ot, ot_lst, ot_lstI, ot_dic, ot_dicI, ap_wr, wr_ow, wr_io, wrO_some, wrI_some, ap_set, ap_mut, run_F, runK_ok, fin_at, fin_nx, fin_v, fin_o, fin_s, finS_ow, finS_fz, outs_nil, outs_fz, outs_bw, outs_io, en_at, slot_fz, slot_io, slot_bw, dv_add, dv_sub, dv_neg, dv_eqI, dv_eqS, dv_eqB, dv_neI, dv_neS, dv_neB, dv_lt, dv_le, dv_gt, dv_ge, ixk_some, dv_ixT, dv_ixL, dv_ixR, dv_ixDS, dv_ixDI, dv_slT, dv_slL, dv_slR, dv_lenT, dv_lenL, dv_lenR, dv_lenD, dv_intI, dv_intB, dv_abs, dv_min, dv_max, dv_listT, dv_listL, dv_listR, dv_tupT, dv_tupL, dv_tupR, dv_get2S, dv_get2I, dv_dictD, at0, at1, at2, at3, at4, at5, ap_comp, optC_some, optC_none, cl_nil, cl_cons, wb_nil, wb_cons, wbS_un, wbS_fz, wp_nil, wp_cons, bk_nil, bk_cons, bkS_some, condK_true, condK_false, ap_turn, turnW_true, turnK_ok, ap_yes, ap_part, intK_int, nb_none, nb_some, slK_s, slV_some, pin_un, pin_fz, pin_ow, dv_isiII, dv_isiIB, ap_isi2, isi2K_at, isi2T_some, isi2B_some, ap_chain, chK_some, chS_true, chS_false, inS_some, notInS_some, dv_in, dv_notIn, inB_strsT, inB_strsL, inB_dic, inB_T1, inB_T2, inB_T3, dv_all, dv_any, ty_non, ty_bl, ty_int, ty_str, ty_tup, ty_lst, ty_dic, dv_isi, isiT_some, isiK_some, kb_nn, kb_nb, kb_ns, kb_nt, kb_nl, kb_bi, kb_bb, kb_bs, kb_bt, kb_bl, kb_ii, kb_ib, kb_is, kb_it, kb_il, kb_si, kb_sb, kb_ss, kb_st, kb_sl, kb_ti, kb_tb, kb_ts, kb_tt, kb_tl, kb_li, kb_lb, kb_ls, kb_lt, kb_ll, kb_di, kb_db, kb_ds, kb_dt, kb_dl, i2_n, i2_b, i2_i, i2_s, i2_t, i2_l, List.map_cons, List.map_nil, List.cons_append, List.nil_append, List.replicate_succ, List.replicate_zero, List.append_nil, List.length_cons, List.length_nil, List.getElem?_cons_zero, List.getElem?_cons_succ, List.set_cons_zero, List.set_cons_succ, List.all_cons, List.all_nil, Option.map_some, ↓reduceIte, Nat.reduceAdd, Nat.reduceSub, Nat.reduceEqDiff, Bool.and_true, Bool.true_and, Bool.and_false, Bool.false_and, Bool.not_true, Bool.not_false, Bool.or_false, Bool.or_true, Bool.false_or, Bool.true_or, decide_true, decide_false, eq_self, String.reduceEq, Int.reduceEq, Int.reduceLT, Int.reduceLE, run_A, tupK_ok, lstK_ok, compK_ok, ap_tgT_tup, ap_tgT_pr, ap_tgT_lst, sizeLine_eq, Nat.reduceLeDiff, Nat.reduceLT, str_eq, Int.reducePow, Nat.reducePow, Int.reduceToNat, Int.reduceNeg, Int.cast_ofNat_Int, Nat.reduceBNe, ap_and, hd]
    unfold leafM at s6
    rw [s6]
    simp only [ob_ok, ob_stuck, ob_exc, ap_ret, ap_fail, ap_bnd, ap_var, var_fz, var_ow, var_io, var_bw, ap_K, ap_op, op_v, op_o, op_s, ap_val, take_v, take_o, take_s, takeS_fz, takeS_ow, view_v, view_o, view_s, viewS_fz, viewS_ow, viewS_io, viewS_bw, val_lst, val_dic, val_dit, sr_d, sr_nt, sr_ob, sr_no, ap_c1, c1k_some, ap_c2, c2k_some, arg_valm, arg_bwm, arg_iom, bwK_v, bwK_s, ioK_v, ioK_s, sq_nil, sq_cons, ap_cN, cNk_some, vs_nil, vs_cons, vsk_some, av_d, av_s, av_io, ar_nil, ar_cons, ark_some, arg_d, arg_s, arg_i, argS_fz, argS_ow, argS_io, argS_bw, argI_fz, argI_ow, argI_io, df_nil, df_d, df_s, df_io, ix_d, ix_s, ix_io, ap_call, callK_some, callD_true, callR_ok, rt_v, rt_o, ue_nil, ue_cons, uek_none, uek_ow, uek_io, of_nil, of_d, of_s, of_none, of_io, ap_B, br_v, ap_T, tru_non, tru_bl, tru_int, tru_tup, tru_lst, tru_scr, tru_dic, ap_not, notB_ok, ap_if, iteB_true, iteB_false, ap_and, ap_or, ap_andV, ap_orV, ap_notV, ap_seq, seqB_nx, seqB_rt, seqB_bk, seqB_ct, ap_nx, ap_bk, ap_ct, ap_sret, ap_sretN, ap_expr, ap_asg, asg_at, asg_vu, asg_vf, asg_vo, asg_ou, asg_of, asg_oo, asg_su, asg_sf, asg_so, asgJ_ow, asgJ_fz, ap_tgN, tgS_un, tgS_fz, tgS_ow, ap_tgNil, ap_tgCons, ap_asgT, ap_cSeq, sq_lst, sq_scr, sq_str, sq_tup, ap_rg1, ap_rg2, ap_for, for_nil, for_cons, forK_nx, forK_ct, forK_bk, forK_rt, tk_nil, tk_cons, ap_tup, ap_lst, ap_dic0, pm_nil, pm_cons, ap_dic, dicK_ok, ap_sl, slK_v, part_none, ap_kind, kd_dic, ap_get2, g2K_some, ap_get1, g1K_some, ap_oa, oa_ow, oa_io, ap_ot, ot_lst, ot_lstI, ot_dic, ot_dicI, ap_wr, wr_ow, wr_io, wrO_some, wrI_some, ap_set, ap_mut, run_F, runK_ok, fin_at, fin_nx, fin_v, fin_o, fin_s, finS_ow, finS_fz, outs_nil, outs_fz, outs_bw, outs_io, en_at, slot_fz, slot_io, slot_bw, dv_add, dv_sub, dv_neg, dv_eqI, dv_eqS, dv_eqB, dv_neI, dv_neS, dv_neB, dv_lt, dv_le, dv_gt, dv_ge, ixk_some, dv_ixT, dv_ixL, dv_ixR, dv_ixDS, dv_ixDI, dv_slT, dv_slL, dv_slR, dv_lenT, dv_lenL, dv_lenR, dv_lenD, dv_intI, dv_intB, dv_abs, dv_min, dv_max, dv_listT, dv_listL, dv_listR, dv_tupT, dv_tupL, dv_tupR, dv_get2S, dv_get2I, dv_dictD, at0, at1, at2, at3, at4, at5, ap_comp, optC_some, optC_none, cl_nil, cl_cons, wb_nil, wb_cons, wbS_un, wbS_fz, wp_nil, wp_cons, bk_nil, bk_cons, bkS_some, condK_true, condK_false, ap_turn, turnW_true, turnK_ok, ap_yes, ap_part, intK_int, nb_none, nb_some, slK_s, slV_some, pin_un, pin_fz, pin_ow, dv_isiII, dv_isiIB, ap_isi2, isi2K_at, isi2T_some, isi2B_some, ap_chain, chK_some, chS_true, chS_false, inS_some, notInS_some, dv_in, dv_notIn, inB_strsT, inB_strsL, inB_dic, inB_T1, inB_T2, inB_T3, dv_all, dv_any, ty_non, ty_bl, ty_int, ty_str, ty_tup, ty_lst, ty_dic, dv_isi, isiT_some, isiK_some, kb_nn, kb_nb, kb_ns, kb_nt, kb_nl, kb_bi, kb_bb, kb_bs, kb_bt, kb_bl, kb_ii, kb_ib, kb_is, kb_it, kb_il, kb_si, kb_sb, kb_ss, kb_st, kb_sl, kb_ti, kb_tb, kb_ts, kb_tt, kb_tl, kb_li, kb_lb, kb_ls, kb_lt, kb_ll, kb_di, kb_db, kb_ds, kb_dt, kb_dl, i2_n, i2_b, i2_i, i2_s, i2_t, i2_l, List.map_cons, List.map_nil, List.cons_append, List.nil_append, List.replicate_succ, List.replicate_zero, List.append_nil, List.length_cons, List.length_nil, List.getElem?_cons_zero, List.getElem?_cons_succ, List.set_cons_zero, List.set_cons_succ, List.all_cons, List.all_nil, Option.map_some, ↓reduceIte, Nat.reduceAdd, Nat.reduceSub, Nat.reduceEqDiff, Bool.and_true, Bool.true_and, Bool.and_false, Bool.false_and, Bool.not_true, Bool.not_false, Bool.or_false, Bool.or_true, Bool.false_or, Bool.true_or, decide_true, decide_false, eq_self, String.reduceEq, Int.reduceEq, Int.reduceLT, Int.reduceLE, run_A, tupK_ok, lstK_ok, compK_ok, ap_tgT_tup, ap_tgT_pr, ap_tgT_lst, sizeLine_eq, Nat.reduceLeDiff, Nat.reduceLT, str_eq, Int.reducePow, Nat.reducePow, Int.reduceToNat, Int.reduceNeg, Int.cast_ofNat_Int, Nat.reduceBNe]
  | succ m ih =>
    intro k l dp hdp hk hk2
    have hd : dp < 5 := by omega
    have t1 : TT (m + 1) = 2 * TT m + 2 := rfl
    have t2 := hT m
    obtain ⟨w, w1, w2, w3⟩ := pick_spec ns hl k 9 (g, some l) hk (by omega) (by decide)
    have leafCase : (¬ (2 < w ∧ 1 < l)) → (¬ (w = 2 ∧ 0 < l)) → ∃ (s : Sm) (k' l' : Int), s.ok ∧ s.deep ≤ m + 1 + 1 ∧ k ≤ k' ∧ k' ≤ k + TT (m + 1) ∧
        ∀ n, m + 1 + 3 ≤ n → fn n 8 [.io (.dic (stt ns k (g, some l))), .fz (.lst (L.map D.str)), .fz (.int dp)] = .ok (.v s.d) [some (.dic (stt ns k' (g, some l'))), none, none] := by
      intro hA hB
      obtain ⟨s, k', s1, s2, s3, s4, s5⟩ := leaf_spec ns hl L hL hL2 hL3 (k + 1) g l dp w (by omega) (by omega)
      refine ⟨s, k', l, s1, by omega, by omega, by omega, fun n hn => ?_⟩
      obtain ⟨n, rfl⟩ : ∃ m, n = m + 1 := ⟨n - 1, by omega⟩
      have w4 := w3 n (by omega)
      have s6 := s5 n (by omega)
      rw [fn_succ]
      simp only [step, run_A, run_F, en_at, slot_fz, slot_io, slot_bw, List.map_cons, List.map_nil, List.cons_append, List.nil_append, List.replicate_succ, List.replicate_zero, List.append_nil, List.length_cons, List.length_nil, Nat.reduceAdd, Nat.reduceSub, c_law_sum_in]
      unfold m_law_sum_in
      rw [ap_seq]
      simp only [ob_ok, ob_stuck, ob_exc, ap_ret, ap_fail, ap_bnd, ap_var, var_fz, var_ow, var_io, var_bw, ap_K, ap_op, op_v, op_o, op_s, ap_val, take_v, take_o, take_s, takeS_fz, takeS_ow, view_v, view_o, view_s, viewS_fz, viewS_ow, viewS_io, viewS_bw, val_lst, val_dic, val_dit, sr_d, sr_nt, sr_ob, sr_no, ap_c1, c1k_some, ap_c2, c2k_some, arg_valm, arg_bwm, arg_iom, bwK_v, bwK_s, ioK_v, ioK_s, sq_nil, sq_cons, ap_cN, cNk_some, vs_nil, vs_cons, vsk_some, av_d, av_s, av_io, ar_nil, ar_cons, ark_some, arg_d, arg_s, arg_i, argS_fz, argS_ow, argS_io, argS_bw, argI_fz, argI_ow, argI_io, df_nil, df_d, df_s, df_io, ix_d, ix_s, ix_io, ap_call, callK_some, callD_true, callR_ok, rt_v, rt_o, ue_nil, ue_cons, uek_none, uek_ow, uek_io, of_nil, of_d, of_s, of_none, of_io, ap_B, br_v, ap_T, tru_non, tru_bl, tru_int, tru_tup, tru_lst, tru_scr, tru_dic, ap_not, notB_ok, ap_if, iteB_true, iteB_false, ap_and, ap_or, ap_andV, ap_orV, ap_notV, seqB_nx, seqB_rt, seqB_bk, seqB_ct, ap_nx, ap_bk, ap_ct, ap_sret, ap_sretN, ap_expr, ap_asg, asg_at, asg_vu, asg_vf, asg_vo, asg_ou, asg_of, asg_oo, asg_su, asg_sf, asg_so, asgJ_ow, asgJ_fz, ap_tgN, tgS_un, tgS_fz, tgS_ow, ap_tgNil, ap_tgCons, ap_asgT, ap_cSeq, sq_lst, sq_scr, sq_str, sq_tup, ap_rg1, ap_rg2, ap_for, for_nil, for_cons, forK_nx, forK_ct, forK_bk, forK_rt, tk_nil, tk_cons, ap_tup, ap_lst, ap_dic0, pm_nil, pm_cons, ap_dic, dicK_ok, ap_sl, slK_v, part_none, ap_kind, kd_dic, ap_get2, g2K_some, ap_get1, g1K_some, ap_oa, oa_ow, oa_io, ap_ot, ot_lst, ot_lstI, ot_dic, ot_dicI, ap_wr, wr_ow, wr_io, wrO_some, wrI_some, ap_set, ap_mut, run_F, runK_ok, fin_at, fin_nx, fin_v, fin_o, fin_s, finS_ow, finS_fz, outs_nil, outs_fz, outs_bw, outs_io, en_at, slot_fz, slot_io, slot_bw, dv_add, dv_sub, dv_neg, dv_eqI, dv_eqS, dv_eqB, dv_neI, dv_neS, dv_neB, dv_lt, dv_le, dv_gt, dv_ge, ixk_some, dv_ixT, dv_ixL, dv_ixR, dv_ixDS, dv_ixDI, dv_slT, dv_slL, dv_slR, dv_lenT, dv_lenL, dv_lenR, dv_lenD, dv_intI, dv_intB, dv_abs, dv_min, dv_max, dv_listT, dv_listL, dv_listR, dv_tupT, dv_tupL, dv_tupR, dv_get2S, dv_get2I, dv_dictD, at0, at1, at2, at3, at4, at5, ap_comp, optC_some, optC_none, cl_nil, cl_cons, wb_nil, wb_cons, wbS_un, wbS_fz, wp_nil, wp_cons, bk_nil, bk_cons, bkS_some, condK_true, condK_false, ap_turn, turnW_true, turnK_ok, ap_yes, ap_part, intK_int, nb_none, nb_some, slK_s, slV_some, pin_un, pin_fz, pin_ow, dv_isiII, dv_isiIB, ap_isi2, isi2K_at, isi2T_some, isi2B_some, ap_chain, chK_some, chS_true, chS_false, inS_some, notInS_some, dv_in, dv_notIn, inB_strsT, inB_strsL, inB_dic, inB_T1, inB_T2, inB_T3, dv_all, dv_any, ty_non, ty_bl, ty_int, ty_str, ty_tup, ty_lst, ty_dic, dv_isi, isiT_some, isiK_some, kb_nn, kb_nb, kb_ns, kb_nt, kb_nl, kb_bi, kb_bb, kb_bs, kb_bt, kb_bl, kb_ii, kb_ib, kb_is, kb_it, kb_il, kb_si, kb_sb, kb_ss, kb_st, kb_sl, kb_ti, kb_tb, kb_ts, kb_tt, kb_tl, kb_li, kb_lb, kb_ls, kb_lt, kb_ll, kb_di, kb_db, kb_ds, kb_dt, kb_dl, i2_n, i2_b, i2_i, i2_s, i2_t, i2_l, List.map_cons, List.map_nil, List.cons_append, List.nil_append, List.replicate_succ, List.replicate_zero, List.append_nil, List.length_cons, List.length_nil, List.getElem?_cons_zero, List.getElem?_cons_succ, List.set_cons_zero, List.set_cons_succ, List.all_cons, List.all_nil, Option.map_some, ↓reduceIte, Nat.reduceAdd, Nat.reduceSub, Nat.reduceEqDiff, Bool.and_true, Bool.true_and, Bool.and_false, Bool.false_and, Bool.not_true, Bool.not_false, Bool.or_false, Bool.or_true, Bool.false_or, Bool.true_or, decide_true, decide_false, eq_self, String.reduceEq, Int.reduceEq, Int.reduceLT, Int.reduceLE, run_A, tupK_ok, lstK_ok, compK_ok, ap_tgT_tup, ap_tgT_pr, ap_tgT_lst, sizeLine_eq, Nat.reduceLeDiff, Nat.reduceLT, str_eq, Int.reducePow, Nat.reducePow, Int.reduceToNat, Int.reduceNeg, Int.cast_ofNat_Int, Nat.reduceBNe, w4]
      rw [ap_seq]
      have eA : (tAndM (cB (c2 ltD (cVar 2) (cK (.int 5)))) (tAndM (cB (c2 gtD (cVar 3) (cK (.int 2)))) (cB (c2 gtD (c2 ixD (cVar 0) (cK (.str "left"))) (cK (.int 1)))))) [.io (.dic (stt ns (k + 1) (g, some l))), .fz (.lst (L.map D.str)), .fz (.int dp), .fz (.int w), .un, .un] = .ok false [.io (.dic (stt ns (k + 1) (g, some l))), .fz (.lst (L.map D.str)), .fz (.int dp), .fz (.int w), .un, .un] := by
        by_cases h1 : 2 < w
        · have h2 : ¬ (1 < l) := fun z => hA ⟨h1, z⟩
          simp only [ob_ok, ob_stuck, ob_exc, ap_ret, ap_fail, ap_bnd, ap_var, var_fz, var_ow, var_io, var_bw, ap_K, ap_op, op_v, op_o, op_s, ap_val, take_v, take_o, take_s, takeS_fz, takeS_ow, view_v, view_o, view_s, viewS_fz, viewS_ow, viewS_io, viewS_bw, val_lst, val_dic, val_dit, sr_d, sr_nt, sr_ob, sr_no, ap_c1, c1k_some, ap_c2, c2k_some, arg_valm, arg_bwm, arg_iom, bwK_v, bwK_s, ioK_v, ioK_s, sq_nil, sq_cons, ap_cN, cNk_some, vs_nil, vs_cons, vsk_some, av_d, av_s, av_io, ar_nil, ar_cons, ark_some, arg_d, arg_s, arg_i, argS_fz, argS_ow, argS_io, argS_bw, argI_fz, argI_ow, argI_io, df_nil, df_d, df_s, df_io, ix_d, ix_s, ix_io, ap_call, callK_some, callD_true, callR_ok, rt_v, rt_o, ue_nil, ue_cons, uek_none, uek_ow, uek_io, of_nil, of_d, of_s, of_none, of_io, ap_B, br_v, ap_T, tru_non, tru_bl, tru_int, tru_tup, tru_lst, tru_scr, tru_dic, ap_not, notB_ok, ap_if, iteB_true, iteB_false, ap_and, ap_or, ap_andV, ap_orV, ap_notV, ap_seq, seqB_nx, seqB_rt, seqB_bk, seqB_ct, ap_nx, ap_bk, ap_ct, ap_sret, ap_sretN, ap_expr, ap_asg, asg_at, asg_vu, asg_vf, asg_vo, asg_ou, asg_of, asg_oo, asg_su, asg_sf, asg_so, asgJ_ow, asgJ_fz, ap_tgN, tgS_un, tgS_fz, tgS_ow, ap_tgNil, ap_tgCons, ap_asgT, ap_cSeq, sq_lst, sq_scr, sq_str, sq_tup, ap_rg1, ap_rg2, ap_for, for_nil, for_cons, forK_nx, forK_ct, forK_bk, forK_rt, tk_nil, tk_cons, ap_tup, ap_lst, ap_dic0, pm_nil, pm_cons, ap_dic, dicK_ok, ap_sl, slK_v, part_none, ap_kind, kd_dic, ap_get2, g2K_some, ap_get1, g1K_some, ap_oa, oa_ow, oa_io, ap_ot, ot_lst, ot_lstI, ot_dic, ot_dicI, ap_wr, wr_ow, wr_io, wrO_some, wrI_some, ap_set, ap_mut, run_F, runK_ok, fin_at, fin_nx, fin_v, fin_o, fin_s, finS_ow, finS_fz, outs_nil, outs_fz, outs_bw, outs_io, en_at, slot_fz, slot_io, slot_bw, dv_add, dv_sub, dv_neg, dv_eqI, dv_eqS, dv_eqB, dv_neI, dv_neS, dv_neB, dv_lt, dv_le, dv_gt, dv_ge, ixk_some, dv_ixT, dv_ixL, dv_ixR, dv_ixDS, dv_ixDI, dv_slT, dv_slL, dv_slR, dv_lenT, dv_lenL, dv_lenR, dv_lenD, dv_intI, dv_intB, dv_abs, dv_min, dv_max, dv_listT, dv_listL, dv_listR, dv_tupT, dv_tupL, dv_tupR, dv_get2S, dv_get2I, dv_dictD, at0, at1, at2, at3, at4, at5, ap_comp, optC_some, optC_none, cl_nil, cl_cons, wb_nil, wb_cons, wbS_un, wbS_fz, wp_nil, wp_cons, bk_nil, bk_cons, bkS_some, condK_true, condK_false, ap_turn, turnW_true, turnK_ok, ap_yes, ap_part, intK_int, nb_none, nb_some, slK_s, slV_some, pin_un, pin_fz, pin_ow, dv_isiII, dv_isiIB, ap_isi2, isi2K_at, isi2T_some, isi2B_some, ap_chain, chK_some, chS_true, chS_false, inS_some, notInS_some, dv_in, dv_notIn, inB_strsT, inB_strsL, inB_dic, inB_T1, inB_T2, inB_T3, dv_all, dv_any, ty_non, ty_bl, ty_int, ty_str, ty_tup, ty_lst, ty_dic, dv_isi, isiT_some, isiK_some, kb_nn, kb_nb, kb_ns, kb_nt, kb_nl, kb_bi, kb_bb, kb_bs, kb_bt, kb_bl, kb_ii, kb_ib, kb_is, kb_it, kb_il, kb_si, kb_sb, kb_ss, kb_st, kb_sl, kb_ti, kb_tb, kb_ts, kb_tt, kb_tl, kb_li, kb_lb, kb_ls, kb_lt, kb_ll, kb_di, kb_db, kb_ds, kb_dt, kb_dl, i2_n, i2_b, i2_i, i2_s, i2_t, i2_l, List.map_cons, List.map_nil, List.cons_append, List.nil_append, List.replicate_succ, List.replicate_zero, List.append_nil, List.length_cons, List.length_nil, List.getElem?_cons_zero, List.getElem?_cons_succ, List.set_cons_zero, List.set_cons_succ, List.all_cons, List.all_nil, Option.map_some, ↓reduceIte, Nat.reduceAdd, Nat.reduceSub, Nat.reduceEqDiff, Bool.and_true, Bool.true_and, Bool.and_false, Bool.false_and, Bool.not_true, Bool.not_false, Bool.or_false, Bool.or_true, Bool.false_or, Bool.true_or, decide_true, decide_false, eq_self, String.reduceEq, Int.reduceEq, Int.reduceLT, Int.reduceLE, run_A, tupK_ok, lstK_ok, compK_ok, ap_tgT_tup, ap_tgT_pr, ap_tgT_lst, sizeLine_eq, Nat.reduceLeDiff, Nat.reduceLT, str_eq, Int.reducePow, Nat.reducePow, Int.reduceToNat, Int.reduceNeg, Int.cast_ofNat_Int, Nat.reduceBNe, hd, h1, h2, st_left]
        · simp only [ob_ok, ob_stuck, ob_exc, ap_ret, ap_fail, ap_bnd, ap_var, var_fz, var_ow, var_io, var_bw, ap_K, ap_op, op_v, op_o, op_s, ap_val, take_v, take_o, take_s, takeS_fz, takeS_ow, view_v, view_o, view_s, viewS_fz, viewS_ow, viewS_io, viewS_bw, val_lst, val_dic, val_dit, sr_d, sr_nt, sr_ob, sr_no, ap_c1, c1k_some, ap_c2, c2k_some, arg_valm, arg_bwm, arg_iom, bwK_v, bwK_s, ioK_v, ioK_s, sq_nil, sq_cons, ap_cN, cNk_some, vs_nil, vs_cons, vsk_some, av_d, av_s, av_io, ar_nil, ar_cons, ark_some, arg_d, arg_s, arg_i, argS_fz, argS_ow, argS_io, argS_bw, argI_fz, argI_ow, argI_io, df_nil, df_d, df_s, df_io, ix_d, ix_s, ix_io, ap_call, callK_some, callD_true, callR_ok, rt_v, rt_o, ue_nil, ue_cons, uek_none, uek_ow, uek_io, of_nil, of_d, of_s, of_none, of_io, ap_B, br_v, ap_T, tru_non, tru_bl, tru_int, tru_tup, tru_lst, tru_scr, tru_dic, ap_not, notB_ok, ap_if, iteB_true, iteB_false, ap_and, ap_or, ap_andV, ap_orV, ap_notV, ap_seq, seqB_nx, seqB_rt, seqB_bk, seqB_ct, ap_nx, ap_bk, ap_ct, ap_sret, ap_sretN, ap_expr, ap_asg, asg_at, asg_vu, asg_vf, asg_vo, asg_ou, asg_of, asg_oo, asg_su, asg_sf, asg_so, asgJ_ow, asgJ_fz, ap_tgN, tgS_un, tgS_fz, tgS_ow, ap_tgNil, ap_tgCons, ap_asgT, ap_cSeq, sq_lst, sq_scr, sq_str, sq_tup, ap_rg1, ap_rg2, ap_for, for_nil, for_cons, forK_nx, forK_ct, forK_bk, forK_rt, tk_nil, tk_cons, ap_tup, ap_lst, ap_dic0, pm_nil, pm_cons, ap_dic, dicK_ok, ap_sl, slK_v, part_none, ap_kind, kd_dic, ap_get2, g2K_some, ap_get1, g1K_some, ap_oa, oa_ow, oa_io, ap_ot, ot_lst, ot_lstI, ot_dic, ot_dicI, ap_wr, wr_ow, wr_io, wrO_some, wrI_some, ap_set, ap_mut, run_F, runK_ok, fin_at, fin_nx, fin_v, fin_o, fin_s, finS_ow, finS_fz, outs_nil, outs_fz, outs_bw, outs_io, en_at, slot_fz, slot_io, slot_bw, dv_add, dv_sub, dv_neg, dv_eqI, dv_eqS, dv_eqB, dv_neI, dv_neS, dv_neB, dv_lt, dv_le, dv_gt, dv_ge, ixk_some, dv_ixT, dv_ixL, dv_ixR, dv_ixDS, dv_ixDI, dv_slT, dv_slL, dv_slR, dv_lenT, dv_lenL, dv_lenR, dv_lenD, dv_intI, dv_intB, dv_abs, dv_min, dv_max, dv_listT, dv_listL, dv_listR, dv_tupT, dv_tupL, dv_tupR, dv_get2S, dv_get2I, dv_dictD, at0, at1, at2, at3, at4, at5, ap_comp, optC_some, optC_none, cl_nil, cl_cons, wb_nil, wb_cons, wbS_un, wbS_fz, wp_nil, wp_cons, bk_nil, bk_cons, bkS_some, condK_true, condK_false, ap_turn, turnW_true, turnK_ok, ap_yes, ap_part, intK_int, nb_none, nb_some, slK_s, slV_some, pin_un, pin_fz, pin_ow, dv_isiII, dv_isiIB, ap_isi2, isi2K_at, isi2T_some, isi2B_some, ap_chain, chK_some, chS_true, chS_false, inS_some, notInS_some, dv_in, dv_notIn, inB_strsT, inB_strsL, inB_dic, inB_T1, inB_T2, inB_T3, dv_all, dv_any, ty_non, ty_bl, ty_int, ty_str, ty_tup, ty_lst, ty_dic, dv_isi, isiT_some, isiK_some, kb_nn, kb_nb, kb_ns, kb_nt, kb_nl, kb_bi, kb_bb, kb_bs, kb_bt, kb_bl, kb_ii, kb_ib, kb_is, kb_it, kb_il, kb_si, kb_sb, kb_ss, kb_st, kb_sl, kb_ti, kb_tb, kb_ts, kb_tt, kb_tl, kb_li, kb_lb, kb_ls, kb_lt, kb_ll, kb_di, kb_db, kb_ds, kb_dt, kb_dl, i2_n, i2_b, i2_i, i2_s, i2_t, i2_l, List.map_cons, List.map_nil, List.cons_append, List.nil_append, List.replicate_succ, List.replicate_zero, List.append_nil, List.length_cons, List.length_nil, List.getElem?_cons_zero, List.getElem?_cons_succ, List.set_cons_zero, List.set_cons_succ, List.all_cons, List.all_nil, Option.map_some, ↓reduceIte, Nat.reduceAdd, Nat.reduceSub, Nat.reduceEqDiff, Bool.and_true, Bool.true_and, Bool.and_false, Bool.false_and, Bool.not_true, Bool.not_false, Bool.or_false, Bool.or_true, Bool.false_or, Bool.true_or, decide_true, decide_false, eq_self, String.reduceEq, Int.reduceEq, Int.reduceLT, Int.reduceLE, run_A, tupK_ok, lstK_ok, compK_ok, ap_tgT_tup, ap_tgT_pr, ap_tgT_lst, sizeLine_eq, Nat.reduceLeDiff, Nat.reduceLT, str_eq, Int.reducePow, Nat.reducePow, Int.reduceToNat, Int.reduceNeg, Int.cast_ofNat_Int, Nat.reduceBNe, hd, h1]
      have eB : (tAndM (cB (c2 ltD (cVar 2) (cK (.int 5)))) (tAndM (cB (c2 eqD (cVar 3) (cK (.int 2)))) (cB (c2 gtD (c2 ixD (cVar 0) (cK (.str "left"))) (cK (.int 0)))))) [.io (.dic (stt ns (k + 1) (g, some l))), .fz (.lst (L.map D.str)), .fz (.int dp), .fz (.int w), .un, .un] = .ok false [.io (.dic (stt ns (k + 1) (g, some l))), .fz (.lst (L.map D.str)), .fz (.int dp), .fz (.int w), .un, .un] := by
        by_cases h1 : w = 2
        · have h2 : ¬ (0 < l) := fun z => hB ⟨h1, z⟩
          simp only [ob_ok, ob_stuck, ob_exc, ap_ret, ap_fail, ap_bnd, ap_var, var_fz, var_ow, var_io, var_bw, ap_K, ap_op, op_v, op_o, op_s, ap_val, take_v, take_o, take_s, takeS_fz, takeS_ow, view_v, view_o, view_s, viewS_fz, viewS_ow, viewS_io, viewS_bw, val_lst, val_dic, val_dit, sr_d, sr_nt, sr_ob, sr_no, ap_c1, c1k_some, ap_c2, c2k_some, arg_valm, arg_bwm, arg_iom, bwK_v, bwK_s, ioK_v, ioK_s, sq_nil, sq_cons, ap_cN, cNk_some, vs_nil, vs_cons, vsk_some, av_d, av_s, av_io, ar_nil, ar_cons, ark_some, arg_d, arg_s, arg_i, argS_fz, argS_ow, argS_io, argS_bw, argI_fz, argI_ow, argI_io, df_nil, df_d, df_s, df_io, ix_d, ix_s, ix_io, ap_call, callK_some, callD_true, callR_ok, rt_v, rt_o, ue_nil, ue_cons, uek_none, uek_ow, uek_io, of_nil, of_d, of_s, of_none, of_io, ap_B, br_v, ap_T, tru_non, tru_bl, tru_int, tru_tup, tru_lst, tru_scr, tru_dic, ap_not, notB_ok, ap_if, iteB_true, iteB_false, ap_and, ap_or, ap_andV, ap_orV, ap_notV, ap_seq, seqB_nx, seqB_rt, seqB_bk, seqB_ct, ap_nx, ap_bk, ap_ct, ap_sret, ap_sretN, ap_expr, ap_asg, asg_at, asg_vu, asg_vf, asg_vo, asg_ou, asg_of, asg_oo, asg_su, asg_sf, asg_so, asgJ_ow, asgJ_fz, ap_tgN, tgS_un, tgS_fz, tgS_ow, ap_tgNil, ap_tgCons, ap_asgT, ap_cSeq, sq_lst, sq_scr, sq_str, sq_tup, ap_rg1, ap_rg2, ap_for, for_nil, for_cons, forK_nx, forK_ct, forK_bk, forK_rt, tk_nil, tk_cons, ap_tup, ap_lst, ap_dic0, pm_nil, pm_cons, ap_dic, dicK_ok, ap_sl, slK_v, part_none, ap_kind, kd_dic, ap_get2, g2K_some, ap_get1, g1K_some, ap_oa, oa_ow, oa_io, ap_ot, ot_lst, ot_lstI, ot_dic, ot_dicI, ap_wr, wr_ow, wr_io, wrO_some, wrI_some, ap_set, ap_mut, run_F, runK_ok, fin_at, fin_nx, fin_v, fin_o, fin_s, finS_ow, finS_fz, outs_nil, outs_fz, outs_bw, outs_io, en_at, slot_fz, slot_io, slot_bw, dv_add, dv_sub, dv_neg, dv_eqI, dv_eqS, dv_eqB, dv_neI, dv_neS, dv_neB, dv_lt, dv_le, dv_gt, dv_ge, ixk_some, dv_ixT, dv_ixL, dv_ixR, dv_ixDS, dv_ixDI, dv_slT, dv_slL, dv_slR, dv_lenT, dv_lenL, dv_lenR, dv_lenD, dv_intI, dv_intB, dv_abs, dv_min, dv_max, dv_listT, dv_listL, dv_listR, dv_tupT, dv_tupL, dv_tupR, dv_get2S, dv_get2I, dv_dictD, at0, at1, at2, at3, at4, at5, ap_comp, optC_some, optC_none, cl_nil, cl_cons, wb_nil, wb_cons, wbS_un, wbS_fz, wp_nil, wp_cons, bk_nil, bk_cons, bkS_some, condK_true, condK_false, ap_turn, turnW_true, turnK_ok, ap_yes, ap_part, intK_int, nb_none, nb_some, slK_s, slV_some, pin_un, pin_fz, pin_ow, dv_isiII, dv_isiIB, ap_isi2, isi2K_at, isi2T_some, isi2B_some, ap_chain, chK_some, chS_true, chS_false, inS_some, notInS_some, dv_in, dv_notIn, inB_strsT, inB_strsL, inB_dic, inB_T1, inB_T2, inB_T3, dv_all, dv_any, ty_non, ty_bl, ty_int, ty_str, ty_tup, ty_lst, ty_dic, dv_isi, isiT_some, isiK_some, kb_nn, kb_nb, kb_ns, kb_nt, kb_nl, kb_bi, kb_bb, kb_bs, kb_bt, kb_bl, kb_ii, kb_ib, kb_is, kb_it, kb_il, kb_si, kb_sb, kb_ss, kb_st, kb_sl, kb_ti, kb_tb, kb_ts, kb_tt, kb_tl, kb_li, kb_lb, kb_ls, kb_lt, kb_ll, kb_di, kb_db, kb_ds, kb_dt, kb_dl, i2_n, i2_b, i2_i, i2_s, i2_t, i2_l, List.map_cons, List.map_nil, List.cons_append, List.nil_append, List.replicate_succ, List.replicate_zero, List.append_nil, List.length_cons, List.length_nil, List.getElem?_cons_zero, List.getElem?_cons_succ, List.set_cons_zero, List.set_cons_succ, List.all_cons, List.all_nil, Option.map_some, ↓reduceIte, Nat.reduceAdd, Nat.reduceSub, Nat.reduceEqDiff, Bool.and_true, Bool.true_and, Bool.and_false, Bool.false_and, Bool.not_true, Bool.not_false, Bool.or_false, Bool.or_true, Bool.false_or, Bool.true_or, decide_true, decide_false, eq_self, String.reduceEq, Int.reduceEq, Int.reduceLT, Int.reduceLE, run_A, tupK_ok, lstK_ok, compK_ok, ap_tgT_tup, ap_tgT_pr, ap_tgT_lst, sizeLine_eq, Nat.reduceLeDiff, Nat.reduceLT, str_eq, Int.reducePow, Nat.reducePow, Int.reduceToNat, Int.reduceNeg, Int.cast_ofNat_Int, Nat.reduceBNe, hd, h1, h2, st_left]
        · simp only [ob_ok, ob_stuck, ob_exc, ap_ret, ap_fail, ap_bnd, ap_var, var_fz, var_ow, var_io, var_bw, ap_K, ap_op, op_v, op_o, op_s, ap_val, take_v, take_o, take_s, takeS_fz, takeS_ow, view_v, view_o, view_s, viewS_fz, viewS_ow, viewS_io, viewS_bw, val_lst, val_dic, val_dit, sr_d, sr_nt, sr_ob, sr_no, ap_c1, c1k_some, ap_c2, c2k_some, arg_valm, arg_bwm, arg_iom, bwK_v, bwK_s, ioK_v, ioK_s, sq_nil, sq_cons, ap_cN, cNk_some, vs_nil, vs_cons, vsk_some, av_d, av_s, av_io, ar_nil, ar_cons, ark_some, arg_d, arg_s, arg_i, argS_fz, argS_ow, argS_io, argS_bw, argI_fz, argI_ow, argI_io, df_nil, df_d, df_s, df_io, ix_d, ix_s, ix_io, ap_call, callK_some, callD_true, callR_ok, rt_v, rt_o, ue_nil, ue_cons, uek_none, uek_ow, uek_io, of_nil, of_d, of_s, of_none, of_io, ap_B, br_v, ap_T, tru_non, tru_bl, tru_int, tru_tup, tru_lst, tru_scr, tru_dic, ap_not, notB_ok, ap_if, iteB_true, iteB_false, ap_and, ap_or, ap_andV, ap_orV, ap_notV, ap_seq, seqB_nx, seqB_rt, seqB_bk, seqB_ct, ap_nx, ap_bk, ap_ct, ap_sret, ap_sretN, ap_expr, ap_asg, asg_at, asg_vu, asg_vf, asg_vo, asg_ou, asg_of, asg_oo, asg_su, asg_sf, asg_so, asgJ_ow, asgJ_fz, ap_tgN, tgS_un, tgS_fz, tgS_ow, ap_tgNil, ap_tgCons, ap_asgT, ap_cSeq, sq_lst, sq_scr, sq_str, sq_tup, ap_rg1, ap_rg2, ap_for, for_nil, for_cons, forK_nx, forK_ct, forK_bk, forK_rt, tk_nil, tk_cons, ap_tup, ap_lst, ap_dic0, pm_nil, pm_cons, ap_dic, dicK_ok, ap_sl, slK_v, part_none, ap_kind, kd_dic, ap_get2, g2K_some, ap_get1, g1K_some, ap_oa, oa_ow, oa_io, ap_ot, ot_lst, ot_lstI, ot_dic, ot_dicI, ap_wr, wr_ow, wr_io, wrO_some, wrI_some, ap_set, ap_mut, run_F, runK_ok, fin_at, fin_nx, fin_v, fin_o, fin_s, finS_ow, finS_fz, outs_nil, outs_fz, outs_bw, outs_io, en_at, slot_fz, slot_io, slot_bw, dv_add, dv_sub, dv_neg, dv_eqI, dv_eqS, dv_eqB, dv_neI, dv_neS, dv_neB, dv_lt, dv_le, dv_gt, dv_ge, ixk_some, dv_ixT, dv_ixL, dv_ixR, dv_ixDS, dv_ixDI, dv_slT, dv_slL, dv_slR, dv_lenT, dv_lenL, dv_lenR, dv_lenD, dv_intI, dv_intB, dv_abs, dv_min, dv_max, dv_listT, dv_listL, dv_listR, dv_tupT, dv_tupL, dv_tupR, dv_get2S, dv_get2I, dv_dictD, at0, at1, at2, at3, at4, at5, ap_comp, optC_some, optC_none, cl_nil, cl_cons, wb_nil, wb_cons, wbS_un, wbS_fz, wp_nil, wp_cons, bk_nil, bk_cons, bkS_some, condK_true, condK_false, ap_turn, turnW_true, turnK_ok, ap_yes, ap_part, intK_int, nb_none, nb_some, slK_s, slV_some, pin_un, pin_fz, pin_ow, dv_isiII, dv_isiIB, ap_isi2, isi2K_at, isi2T_some, isi2B_some, ap_chain, chK_some, chS_true, chS_false, inS_some, notInS_some, dv_in, dv_notIn, inB_strsT, inB_strsL, inB_dic, inB_T1, inB_T2, inB_T3, dv_all, dv_any, ty_non, ty_bl, ty_int, ty_str, ty_tup, ty_lst, ty_dic, dv_isi, isiT_some, isiK_some, kb_nn, kb_nb, kb_ns, kb_nt, kb_nl, kb_bi, kb_bb, kb_bs, kb_bt, kb_bl, kb_ii, kb_ib, kb_is, kb_it, kb_il, kb_si, kb_sb, kb_ss, kb_st, kb_sl, kb_ti, kb_tb, kb_ts, kb_tt, kb_tl, kb_li, kb_lb, kb_ls, kb_lt, kb_ll, kb_di, kb_db, kb_ds, kb_dt, kb_dl, i2_n, i2_b, i2_i, i2_s, i2_t, i2_l, List.map_cons, List.map_nil, List.cons_append, List.nil_append, List.replicate_succ, List.replicate_zero, List.append_nil, List.length_cons, List.length_nil, List.getElem?_cons_zero, List.getElem?_cons_succ, List.set_cons_zero, List.set_cons_succ, List.all_cons, List.all_nil, Option.map_some, ↓reduceIte, Nat.reduceAdd, Nat.reduceSub, Nat.reduceEqDiff, Bool.and_true, Bool.true_and, Bool.and_false, Bool.false_and, Bool.not_true, Bool.not_false, Bool.or_false, Bool.or_true, Bool.false_or, Bool.true_or, decide_true, decide_false, eq_self, String.reduceEq, Int.reduceEq, Int.reduceLT, Int.reduceLE, run_A, tupK_ok, lstK_ok, compK_ok, ap_tgT_tup, ap_tgT_pr, ap_tgT_lst, sizeLine_eq, Nat.reduceLeDiff, Nat.reduceLT, str_eq, Int.reducePow, Nat.reducePow, Int.reduceToNat, Int.reduceNeg, Int.cast_ofNat_Int, Nat.reduceBNe, hd, h1]
      rw [ap_if, eA, iteB_false, ap_nx, seqB_nx, ap_seq, ap_if, eB, iteB_false, ap_nx, seqB_nx]
      unfold leafM at s6
      rw [s6]
      simp only [ob_ok, ob_stuck, ob_exc, ap_ret, ap_fail, ap_bnd, ap_var, var_fz, var_ow, var_io, var_bw, ap_K, ap_op, op_v, op_o, op_s, ap_val, take_v, take_o, take_s, takeS_fz, takeS_ow, view_v, view_o, view_s, viewS_fz, viewS_ow, viewS_io, viewS_bw, val_lst, val_dic, val_dit, sr_d, sr_nt, sr_ob, sr_no, ap_c1, c1k_some, ap_c2, c2k_some, arg_valm, arg_bwm, arg_iom, bwK_v, bwK_s, ioK_v, ioK_s, sq_nil, sq_cons, ap_cN, cNk_some, vs_nil, vs_cons, vsk_some, av_d, av_s, av_io, ar_nil, ar_cons, ark_some, arg_d, arg_s, arg_i, argS_fz, argS_ow, argS_io, argS_bw, argI_fz, argI_ow, argI_io, df_nil, df_d, df_s, df_io, ix_d, ix_s, ix_io, ap_call, callK_some, callD_true, callR_ok, rt_v, rt_o, ue_nil, ue_cons, uek_none, uek_ow, uek_io, of_nil, of_d, of_s, of_none, of_io, ap_B, br_v, ap_T, tru_non, tru_bl, tru_int, tru_tup, tru_lst, tru_scr, tru_dic, ap_not, notB_ok, ap_if, iteB_true, iteB_false, ap_and, ap_or, ap_andV, ap_orV, ap_notV, ap_seq, seqB_nx, seqB_rt, seqB_bk, seqB_ct, ap_nx, ap_bk, ap_ct, ap_sret, ap_sretN, ap_expr, ap_asg, asg_at, asg_vu, asg_vf, asg_vo, asg_ou, asg_of, asg_oo, asg_su, asg_sf, asg_so, asgJ_ow, asgJ_fz, ap_tgN, tgS_un, tgS_fz, tgS_ow, ap_tgNil, ap_tgCons, ap_asgT, ap_cSeq, sq_lst, sq_scr, sq_str, sq_tup, ap_rg1, ap_rg2, ap_for, for_nil, for_cons, forK_nx, forK_ct, forK_bk, forK_rt, tk_nil, tk_cons, ap_tup, ap_lst, ap_dic0, pm_nil, pm_cons, ap_dic, dicK_ok, ap_sl, slK_v, part_none, ap_kind, kd_dic, ap_get2, g2K_some, ap_get1, g1K_some, ap_oa, oa_ow, oa_io, ap_ot, ot_lst, ot_lstI, ot_dic, ot_dicI, ap_wr, wr_ow, wr_io, wrO_some, wrI_some, ap_set, ap_mut, run_F, runK_ok, fin_at, fin_nx, fin_v, fin_o, fin_s, finS_ow, finS_fz, outs_nil, outs_fz, outs_bw, outs_io, en_at, slot_fz, slot_io, slot_bw, dv_add, dv_sub, dv_neg, dv_eqI, dv_eqS, dv_eqB, dv_neI, dv_neS, dv_neB, dv_lt, dv_le, dv_gt, dv_ge, ixk_some, dv_ixT, dv_ixL, dv_ixR, dv_ixDS, dv_ixDI, dv_slT, dv_slL, dv_slR, dv_lenT, dv_lenL, dv_lenR, dv_lenD, dv_intI, dv_intB, dv_abs, dv_min, dv_max, dv_listT, dv_listL, dv_listR, dv_tupT, dv_tupL, dv_tupR, dv_get2S, dv_get2I, dv_dictD, at0, at1, at2, at3, at4, at5, ap_comp, optC_some, optC_none, cl_nil, cl_cons, wb_nil, wb_cons, wbS_un, wbS_fz, wp_nil, wp_cons, bk_nil, bk_cons, bkS_some, condK_true, condK_false, ap_turn, turnW_true, turnK_ok, ap_yes, ap_part, intK_int, nb_none, nb_some, slK_s, slV_some, pin_un, pin_fz, pin_ow, dv_isiII, dv_isiIB, ap_isi2, isi2K_at, isi2T_some, isi2B_some, ap_chain, chK_some, chS_true, chS_false, inS_some, notInS_some, dv_in, dv_notIn, inB_strsT, inB_strsL, inB_dic, inB_T1, inB_T2, inB_T3, dv_all, dv_any, ty_non, ty_bl, ty_int, ty_str, ty_tup, ty_lst, ty_dic, dv_isi, isiT_some, isiK_some, kb_nn, kb_nb, kb_ns, kb_nt, kb_nl, kb_bi, kb_bb, kb_bs, kb_bt, kb_bl, kb_ii, kb_ib, kb_is, kb_it, kb_il, kb_si, kb_sb, kb_ss, kb_st, kb_sl, kb_ti, kb_tb, kb_ts, kb_tt, kb_tl, kb_li, kb_lb, kb_ls, kb_lt, kb_ll, kb_di, kb_db, kb_ds, kb_dt, kb_dl, i2_n, i2_b, i2_i, i2_s, i2_t, i2_l, List.map_cons, List.map_nil, List.cons_append, List.nil_append, List.replicate_succ, List.replicate_zero, List.append_nil, List.length_cons, List.length_nil, List.getElem?_cons_zero, List.getElem?_cons_succ, List.set_cons_zero, List.set_cons_succ, List.all_cons, List.all_nil, Option.map_some, ↓reduceIte, Nat.reduceAdd, Nat.reduceSub, Nat.reduceEqDiff, Bool.and_true, Bool.true_and, Bool.and_false, Bool.false_and, Bool.not_true, Bool.not_false, Bool.or_false, Bool.or_true, Bool.false_or, Bool.true_or, decide_true, decide_false, eq_self, String.reduceEq, Int.reduceEq, Int.reduceLT, Int.reduceLE, run_A, tupK_ok, lstK_ok, compK_ok, ap_tgT_tup, ap_tgT_pr, ap_tgT_lst, sizeLine_eq, Nat.reduceLeDiff, Nat.reduceLT, str_eq, Int.reducePow, Nat.reducePow, Int.reduceToNat, Int.reduceNeg, Int.cast_ofNat_Int, Nat.reduceBNe]
    by_cases hA : 2 < w ∧ 1 < l
    · obtain ⟨h1, h2⟩ := hA
      obtain ⟨r, r1, r2, r3⟩ := pick_spec ns hl (k + 1) 5 (g, some (l - 2)) (by omega) (by omega) (by decide)
      obtain ⟨o, ho⟩ : ∃ o : Op, atI [D.str "add", D.str "sub", D.str "mul", D.str "less", D.str "same"] r = some (.str o.w) := by
        have : r = 0 ∨ r = 1 ∨ r = 2 ∨ r = 3 ∨ r = 4 := by omega
        rcases this with rfl | rfl | rfl | rfl | rfl
        · exact ⟨.add, rfl⟩
        · exact ⟨.sub, rfl⟩
        · exact ⟨.mul, rfl⟩
        · exact ⟨.less, rfl⟩
        · exact ⟨.same, rfl⟩
      obtain ⟨a, k1, l1, a1, a2, a3, a4, a5⟩ := ih (k + 1 + 1) (l - 2) (dp + 1) (by omega) (by omega) (by omega)
      obtain ⟨b, k2, l2, b1, b2, b3, b4, b5⟩ := ih k1 l1 (dp + 1) (by omega) (by omega) (by omega)
      refine ⟨.bin o a b, k2, l2, ⟨a1, b1⟩, by unfold Sm.deep; omega, by omega, by omega, fun n hn => ?_⟩
      obtain ⟨n, rfl⟩ : ∃ m, n = m + 1 := ⟨n - 1, by omega⟩
      have w4 := w3 n (by omega)
      have r4 := r3 n (by omega)
      have a6 := a5 n (by omega)
      have b6 := b5 n (by omega)
      rw [fn_succ]
      simp only [step, run_A, run_F, en_at, slot_fz, slot_io, slot_bw, List.map_cons, List.map_nil, List.cons_append, List.nil_append, List.replicate_succ, List.replicate_zero, List.append_nil, List.length_cons, List.length_nil, Nat.reduceAdd, Nat.reduceSub, c_law_sum_in]
      unfold m_law_sum_in
      rw [ap_seq]
      simp only [ob_ok, ob_stuck, ob_exc, ap_ret, ap_fail, ap_bnd, ap_var, var_fz, var_ow, var_io, var_bw, ap_K, ap_op, op_v, op_o, op_s, ap_val, take_v, take_o, take_s, takeS_fz, takeS_ow, view_v, view_o, view_s, viewS_fz, viewS_ow, viewS_io, viewS_bw, val_lst, val_dic, val_dit, sr_d, sr_nt, sr_ob, sr_no, ap_c1, c1k_some, ap_c2, c2k_some, arg_valm, arg_bwm, arg_iom, bwK_v, bwK_s, ioK_v, ioK_s, sq_nil, sq_cons, ap_cN, cNk_some, vs_nil, vs_cons, vsk_some, av_d, av_s, av_io, ar_nil, ar_cons, ark_some, arg_d, arg_s, arg_i, argS_fz, argS_ow, argS_io, argS_bw, argI_fz, argI_ow, argI_io, df_nil, df_d, df_s, df_io, ix_d, ix_s, ix_io, ap_call, callK_some, callD_true, callR_ok, rt_v, rt_o, ue_nil, ue_cons, uek_none, uek_ow, uek_io, of_nil, of_d, of_s, of_none, of_io, ap_B, br_v, ap_T, tru_non, tru_bl, tru_int, tru_tup, tru_lst, tru_scr, tru_dic, ap_not, notB_ok, ap_if, iteB_true, iteB_false, ap_and, ap_or, ap_andV, ap_orV, ap_notV, seqB_nx, seqB_rt, seqB_bk, seqB_ct, ap_nx, ap_bk, ap_ct, ap_sret, ap_sretN, ap_expr, ap_asg, asg_at, asg_vu, asg_vf, asg_vo, asg_ou, asg_of, asg_oo, asg_su, asg_sf, asg_so, asgJ_ow, asgJ_fz, ap_tgN, tgS_un, tgS_fz, tgS_ow, ap_tgNil, ap_tgCons, ap_asgT, ap_cSeq, sq_lst, sq_scr, sq_str, sq_tup, ap_rg1, ap_rg2, ap_for, for_nil, for_cons, forK_nx, forK_ct, forK_bk, forK_rt, tk_nil, tk_cons, ap_tup, ap_lst, ap_dic0, pm_nil, pm_cons, ap_dic, dicK_ok, ap_sl, slK_v, part_none, ap_kind, kd_dic, ap_get2, g2K_some, ap_get1, g1K_some, ap_oa, oa_ow, oa_io, ap_ot, ot_lst, ot_lstI, ot_dic, ot_dicI, ap_wr, wr_ow, wr_io, wrO_some, wrI_some, ap_set, ap_mut, run_F, runK_ok, fin_at, fin_nx, fin_v, fin_o, fin_s, finS_ow, finS_fz, outs_nil, outs_fz, outs_bw, outs_io, en_at, slot_fz, slot_io, slot_bw, dv_add, dv_sub, dv_neg, dv_eqI, dv_eqS, dv_eqB, dv_neI, dv_neS, dv_neB, dv_lt, dv_le, dv_gt, dv_ge, ixk_some, dv_ixT, dv_ixL, dv_ixR, dv_ixDS, dv_ixDI, dv_slT, dv_slL, dv_slR, dv_lenT, dv_lenL, dv_lenR, dv_lenD, dv_intI, dv_intB, dv_abs, dv_min, dv_max, dv_listT, dv_listL, dv_listR, dv_tupT, dv_tupL, dv_tupR, dv_get2S, dv_get2I, dv_dictD, at0, at1, at2, at3, at4, at5, ap_comp, optC_some, optC_none, cl_nil, cl_cons, wb_nil, wb_cons, wbS_un, wbS_fz, wp_nil, wp_cons, bk_nil, bk_cons, bkS_some, condK_true, condK_false, ap_turn, turnW_true, turnK_ok, ap_yes, ap_part, intK_int, nb_none, nb_some, slK_s, slV_some, pin_un, pin_fz, pin_ow, dv_isiII, dv_isiIB, ap_isi2, isi2K_at, isi2T_some, isi2B_some, ap_chain, chK_some, chS_true, chS_false, inS_some, notInS_some, dv_in, dv_notIn, inB_strsT, inB_strsL, inB_dic, inB_T1, inB_T2, inB_T3, dv_all, dv_any, ty_non, ty_bl, ty_int, ty_str, ty_tup, ty_lst, ty_dic, dv_isi, isiT_some, isiK_some, kb_nn, kb_nb, kb_ns, kb_nt, kb_nl, kb_bi, kb_bb, kb_bs, kb_bt, kb_bl, kb_ii, kb_ib, kb_is, kb_it, kb_il, kb_si, kb_sb, kb_ss, kb_st, kb_sl, kb_ti, kb_tb, kb_ts, kb_tt, kb_tl, kb_li, kb_lb, kb_ls, kb_lt, kb_ll, kb_di, kb_db, kb_ds, kb_dt, kb_dl, i2_n, i2_b, i2_i, i2_s, i2_t, i2_l, List.map_cons, List.map_nil, List.cons_append, List.nil_append, List.replicate_succ, List.replicate_zero, List.append_nil, List.length_cons, List.length_nil, List.getElem?_cons_zero, List.getElem?_cons_succ, List.set_cons_zero, List.set_cons_succ, List.all_cons, List.all_nil, Option.map_some, ↓reduceIte, Nat.reduceAdd, Nat.reduceSub, Nat.reduceEqDiff, Bool.and_true, Bool.true_and, Bool.and_false, Bool.false_and, Bool.not_true, Bool.not_false, Bool.or_false, Bool.or_true, Bool.false_or, Bool.true_or, decide_true, decide_false, eq_self, String.reduceEq, Int.reduceEq, Int.reduceLT, Int.reduceLE, run_A, tupK_ok, lstK_ok, compK_ok, ap_tgT_tup, ap_tgT_pr, ap_tgT_lst, sizeLine_eq, Nat.reduceLeDiff, Nat.reduceLT, str_eq, Int.reducePow, Nat.reducePow, Int.reduceToNat, Int.reduceNeg, Int.cast_ofNat_Int, Nat.reduceBNe, w4]
      rw [ap_seq]
      simp only [ob_ok, ob_stuck, ob_exc, ap_ret, ap_fail, ap_bnd, ap_var, var_fz, var_ow, var_io, var_bw, ap_K, ap_op, op_v, op_o, op_s, ap_val, take_v, take_o, take_s, takeS_fz, takeS_ow, view_v, view_o, view_s, viewS_fz, viewS_ow, viewS_io, viewS_bw, val_lst, val_dic, val_dit, sr_d, sr_nt, sr_ob, sr_no, ap_c1, c1k_some, ap_c2, c2k_some, arg_valm, arg_bwm, arg_iom, bwK_v, bwK_s, ioK_v, ioK_s, sq_nil, sq_cons, ap_cN, cNk_some, vs_nil, vs_cons, vsk_some, av_d, av_s, av_io, ar_nil, ar_cons, ark_some, arg_d, arg_s, arg_i, argS_fz, argS_ow, argS_io, argS_bw, argI_fz, argI_ow, argI_io, df_nil, df_d, df_s, df_io, ix_d, ix_s, ix_io, ap_call, callK_some, callD_true, callR_ok, rt_v, rt_o, ue_nil, ue_cons, uek_none, uek_ow, uek_io, of_nil, of_d, of_s, of_none, of_io, ap_B, br_v, ap_T, tru_non, tru_bl, tru_int, tru_tup, tru_lst, tru_scr, tru_dic, ap_not, notB_ok, ap_if, iteB_true, iteB_false, ap_and, ap_or, ap_andV, ap_orV, ap_notV, ap_seq, seqB_nx, seqB_rt, seqB_bk, seqB_ct, ap_nx, ap_bk, ap_ct, ap_sret, ap_sretN, ap_expr, ap_asg, asg_at, asg_vu, asg_vf, asg_vo, asg_ou, asg_of, asg_oo, asg_su, asg_sf, asg_so, asgJ_ow, asgJ_fz, ap_tgN, tgS_un, tgS_fz, tgS_ow, ap_tgNil, ap_tgCons, ap_asgT, ap_cSeq, sq_lst, sq_scr, sq_str, sq_tup, ap_rg1, ap_rg2, ap_for, for_nil, for_cons, forK_nx, forK_ct, forK_bk, forK_rt, tk_nil, tk_cons, ap_tup, ap_lst, ap_dic0, pm_nil, pm_cons, ap_dic, dicK_ok, ap_sl, slK_v, part_none, ap_kind, kd_dic, ap_get2, g2K_some, ap_get1, g1K_some, ap_oa, oa_ow, oa_io, ap_ot, ot_lst, ot_lstI, ot_dic, ot_dicI, ap_wr, wr_ow, wr_io, wrO_some, wrI_some, ap_set, ap_mut, run_F, runK_ok, fin_at, fin_nx, fin_v, fin_o, fin_s, finS_ow, finS_fz, outs_nil, outs_fz, outs_bw, outs_io, en_at, slot_fz, slot_io, slot_bw, dv_add, dv_sub, dv_neg, dv_eqI, dv_eqS, dv_eqB, dv_neI, dv_neS, dv_neB, dv_lt, dv_le, dv_gt, dv_ge, ixk_some, dv_ixT, dv_ixL, dv_ixR, dv_ixDS, dv_ixDI, dv_slT, dv_slL, dv_slR, dv_lenT, dv_lenL, dv_lenR, dv_lenD, dv_intI, dv_intB, dv_abs, dv_min, dv_max, dv_listT, dv_listL, dv_listR, dv_tupT, dv_tupL, dv_tupR, dv_get2S, dv_get2I, dv_dictD, at0, at1, at2, at3, at4, at5, ap_comp, optC_some, optC_none, cl_nil, cl_cons, wb_nil, wb_cons, wbS_un, wbS_fz, wp_nil, wp_cons, bk_nil, bk_cons, bkS_some, condK_true, condK_false, ap_turn, turnW_true, turnK_ok, ap_yes, ap_part, intK_int, nb_none, nb_some, slK_s, slV_some, pin_un, pin_fz, pin_ow, dv_isiII, dv_isiIB, ap_isi2, isi2K_at, isi2T_some, isi2B_some, ap_chain, chK_some, chS_true, chS_false, inS_some, notInS_some, dv_in, dv_notIn, inB_strsT, inB_strsL, inB_dic, inB_T1, inB_T2, inB_T3, dv_all, dv_any, ty_non, ty_bl, ty_int, ty_str, ty_tup, ty_lst, ty_dic, dv_isi, isiT_some, isiK_some, kb_nn, kb_nb, kb_ns, kb_nt, kb_nl, kb_bi, kb_bb, kb_bs, kb_bt, kb_bl, kb_ii, kb_ib, kb_is, kb_it, kb_il, kb_si, kb_sb, kb_ss, kb_st, kb_sl, kb_ti, kb_tb, kb_ts, kb_tt, kb_tl, kb_li, kb_lb, kb_ls, kb_lt, kb_ll, kb_di, kb_db, kb_ds, kb_dt, kb_dl, i2_n, i2_b, i2_i, i2_s, i2_t, i2_l, List.map_cons, List.map_nil, List.cons_append, List.nil_append, List.replicate_succ, List.replicate_zero, List.append_nil, List.length_cons, List.length_nil, List.getElem?_cons_zero, List.getElem?_cons_succ, List.set_cons_zero, List.set_cons_succ, List.all_cons, List.all_nil, Option.map_some, ↓reduceIte, Nat.reduceAdd, Nat.reduceSub, Nat.reduceEqDiff, Bool.and_true, Bool.true_and, Bool.and_false, Bool.false_and, Bool.not_true, Bool.not_false, Bool.or_false, Bool.or_true, Bool.false_or, Bool.true_or, decide_true, decide_false, eq_self, String.reduceEq, Int.reduceEq, Int.reduceLT, Int.reduceLE, run_A, tupK_ok, lstK_ok, compK_ok, ap_tgT_tup, ap_tgT_pr, ap_tgT_lst, sizeLine_eq, Nat.reduceLeDiff, Nat.reduceLT, str_eq, Int.reducePow, Nat.reducePow, Int.reduceToNat, Int.reduceNeg, Int.cast_ofNat_Int, Nat.reduceBNe, hd, h1, h2, st_left, dv_setS, st_len, st_putl, r4, ho, a6, b6, Sm.d]
    · by_cases hB : w = 2 ∧ 0 < l
      · obtain ⟨h1, h2⟩ := hB
        subst h1
        obtain ⟨a, k1, l1, a1, a2, a3, a4, a5⟩ := ih (k + 1) (l - 1) (dp + 1) (by omega) (by omega) (by omega)
        refine ⟨.not a, k1, l1, a1, by unfold Sm.deep; omega, by omega, by omega, fun n hn => ?_⟩
        obtain ⟨n, rfl⟩ : ∃ m, n = m + 1 := ⟨n - 1, by omega⟩
        have w4 := w3 n (by omega)
        have a6 := a5 n (by omega)
        rw [fn_succ]
        simp only [step, run_A, run_F, en_at, slot_fz, slot_io, slot_bw, List.map_cons, List.map_nil, List.cons_append, List.nil_append, List.replicate_succ, List.replicate_zero, List.append_nil, List.length_cons, List.length_nil, Nat.reduceAdd, Nat.reduceSub, c_law_sum_in]
        unfold m_law_sum_in
        rw [ap_seq]
        simp only [ob_ok, ob_stuck, ob_exc, ap_ret, ap_fail, ap_bnd, ap_var, var_fz, var_ow, var_io, var_bw, ap_K, ap_op, op_v, op_o, op_s, ap_val, take_v, take_o, take_s, takeS_fz, takeS_ow, view_v, view_o, view_s, viewS_fz, viewS_ow, viewS_io, viewS_bw, val_lst, val_dic, val_dit, sr_d, sr_nt, sr_ob, sr_no, ap_c1, c1k_some, ap_c2, c2k_some, arg_valm, arg_bwm, arg_iom, bwK_v, bwK_s, ioK_v, ioK_s, sq_nil, sq_cons, ap_cN, cNk_some, vs_nil, vs_cons, vsk_some, av_d, av_s, av_io, ar_nil, ar_cons, ark_some, arg_d, arg_s, arg_i, argS_fz, argS_ow, argS_io, argS_bw, argI_fz, argI_ow, argI_io, df_nil, df_d, df_s, df_io, ix_d, ix_s, ix_io, ap_call, callK_some, callD_true, callR_ok, rt_v, rt_o, ue_nil, ue_cons, uek_none, uek_ow, uek_io, of_nil, of_d, of_s, of_none, of_io, ap_B, br_v, ap_T, tru_non, tru_bl, tru_int, tru_tup, tru_lst, tru_scr, tru_dic, ap_not, notB_ok, ap_if, iteB_true, iteB_false, ap_and, ap_or, ap_andV, ap_orV, ap_notV, seqB_nx, seqB_rt, seqB_bk, seqB_ct, ap_nx, ap_bk, ap_ct, ap_sret, ap_sretN, ap_expr, ap_asg, asg_at, asg_vu, asg_vf, asg_vo, asg_ou, asg_of, asg_oo, asg_su, asg_sf, asg_so, asgJ_ow, asgJ_fz, ap_tgN, tgS_un, tgS_fz, tgS_ow, ap_tgNil, ap_tgCons, ap_asgT, ap_cSeq, sq_lst, sq_scr, sq_str, sq_tup, ap_rg1, ap_rg2, ap_for, for_nil, for_cons, forK_nx, forK_ct, forK_bk, forK_rt, tk_nil, tk_cons, ap_tup, ap_lst, ap_dic0, pm_nil, pm_cons, ap_dic, dicK_ok, ap_sl, slK_v, part_none, ap_kind, kd_dic, ap_get2, g2K_some, ap_get1, g1K_some, ap_oa, oa_ow, oa_io, ap_ot, ot_lst, ot_lstI, ot_dic, ot_dicI, ap_wr, wr_ow, wr_io, wrO_some, wrI_some, ap_set, ap_mut, run_F, runK_ok, fin_at, fin_nx, fin_v, fin_o, fin_s, finS_ow, finS_fz, outs_nil, outs_fz, outs_bw, outs_io, en_at, slot_fz, slot_io, slot_bw, dv_add, dv_sub, dv_neg, dv_eqI, dv_eqS, dv_eqB, dv_neI, dv_neS, dv_neB, dv_lt, dv_le, dv_gt, dv_ge, ixk_some, dv_ixT, dv_ixL, dv_ixR, dv_ixDS, dv_ixDI, dv_slT, dv_slL, dv_slR, dv_lenT, dv_lenL, dv_lenR, dv_lenD, dv_intI, dv_intB, dv_abs, dv_min, dv_max, dv_listT, dv_listL, dv_listR, dv_tupT, dv_tupL, dv_tupR, dv_get2S, dv_get2I, dv_dictD, at0, at1, at2, at3, at4, at5, ap_comp, optC_some, optC_none, cl_nil, cl_cons, wb_nil, wb_cons, wbS_un, wbS_fz, wp_nil, wp_cons, bk_nil, bk_cons, bkS_some, condK_true, condK_false, ap_turn, turnW_true, turnK_ok, ap_yes, ap_part, intK_int, nb_none, nb_some, slK_s, slV_some, pin_un, pin_fz, pin_ow, dv_isiII, dv_isiIB, ap_isi2, isi2K_at, isi2T_some, isi2B_some, ap_chain, chK_some, chS_true, chS_false, inS_some, notInS_some, dv_in, dv_notIn, inB_strsT, inB_strsL, inB_dic, inB_T1, inB_T2, inB_T3, dv_all, dv_any, ty_non, ty_bl, ty_int, ty_str, ty_tup, ty_lst, ty_dic, dv_isi, isiT_some, isiK_some, kb_nn, kb_nb, kb_ns, kb_nt, kb_nl, kb_bi, kb_bb, kb_bs, kb_bt, kb_bl, kb_ii, kb_ib, kb_is, kb_it, kb_il, kb_si, kb_sb, kb_ss, kb_st, kb_sl, kb_ti, kb_tb, kb_ts, kb_tt, kb_tl, kb_li, kb_lb, kb_ls, kb_lt, kb_ll, kb_di, kb_db, kb_ds, kb_dt, kb_dl, i2_n, i2_b, i2_i, i2_s, i2_t, i2_l, List.map_cons, List.map_nil, List.cons_append, List.nil_append, List.replicate_succ, List.replicate_zero, List.append_nil, List.length_cons, List.length_nil, List.getElem?_cons_zero, List.getElem?_cons_succ, List.set_cons_zero, List.set_cons_succ, List.all_cons, List.all_nil, Option.map_some, ↓reduceIte, Nat.reduceAdd, Nat.reduceSub, Nat.reduceEqDiff, Bool.and_true, Bool.true_and, Bool.and_false, Bool.false_and, Bool.not_true, Bool.not_false, Bool.or_false, Bool.or_true, Bool.false_or, Bool.true_or, decide_true, decide_false, eq_self, String.reduceEq, Int.reduceEq, Int.reduceLT, Int.reduceLE, run_A, tupK_ok, lstK_ok, compK_ok, ap_tgT_tup, ap_tgT_pr, ap_tgT_lst, sizeLine_eq, Nat.reduceLeDiff, Nat.reduceLT, str_eq, Int.reducePow, Nat.reducePow, Int.reduceToNat, Int.reduceNeg, Int.cast_ofNat_Int, Nat.reduceBNe, w4]
        rw [ap_seq]
        simp only [ob_ok, ob_stuck, ob_exc, ap_ret, ap_fail, ap_bnd, ap_var, var_fz, var_ow, var_io, var_bw, ap_K, ap_op, op_v, op_o, op_s, ap_val, take_v, take_o, take_s, takeS_fz, takeS_ow, view_v, view_o, view_s, viewS_fz, viewS_ow, viewS_io, viewS_bw, val_lst, val_dic, val_dit, sr_d, sr_nt, sr_ob, sr_no, ap_c1, c1k_some, ap_c2, c2k_some, arg_valm, arg_bwm, arg_iom, bwK_v, bwK_s, ioK_v, ioK_s, sq_nil, sq_cons, ap_cN, cNk_some, vs_nil, vs_cons, vsk_some, av_d, av_s, av_io, ar_nil, ar_cons, ark_some, arg_d, arg_s, arg_i, argS_fz, argS_ow, argS_io, argS_bw, argI_fz, argI_ow, argI_io, df_nil, df_d, df_s, df_io, ix_d, ix_s, ix_io, ap_call, callK_some, callD_true, callR_ok, rt_v, rt_o, ue_nil, ue_cons, uek_none, uek_ow, uek_io, of_nil, of_d, of_s, of_none, of_io, ap_B, br_v, ap_T, tru_non, tru_bl, tru_int, tru_tup, tru_lst, tru_scr, tru_dic, ap_not, notB_ok, ap_if, iteB_true, iteB_false, ap_and, ap_or, ap_andV, ap_orV, ap_notV, ap_seq, seqB_nx, seqB_rt, seqB_bk, seqB_ct, ap_nx, ap_bk, ap_ct, ap_sret, ap_sretN, ap_expr, ap_asg, asg_at, asg_vu, asg_vf, asg_vo, asg_ou, asg_of, asg_oo, asg_su, asg_sf, asg_so, asgJ_ow, asgJ_fz, ap_tgN, tgS_un, tgS_fz, tgS_ow, ap_tgNil, ap_tgCons, ap_asgT, ap_cSeq, sq_lst, sq_scr, sq_str, sq_tup, ap_rg1, ap_rg2, ap_for, for_nil, for_cons, forK_nx, forK_ct, forK_bk, forK_rt, tk_nil, tk_cons, ap_tup, ap_lst, ap_dic0, pm_nil, pm_cons, ap_dic, dicK_ok, ap_sl, slK_v, part_none, ap_kind, kd_dic, ap_get2, g2K_some, ap_get1, g1K_some, ap_oa, oa_ow, oa_io, ap_ot, ot_lst, ot_lstI, ot_dic, ot_dicI, ap_wr, wr_ow, wr_io, wrO_some, wrI_some, ap_set, ap_mut, run_F, runK_ok, fin_at, fin_nx, fin_v, fin_o, fin_s, finS_ow, finS_fz, outs_nil, outs_fz, outs_bw, outs_io, en_at, slot_fz, slot_io, slot_bw, dv_add, dv_sub, dv_neg, dv_eqI, dv_eqS, dv_eqB, dv_neI, dv_neS, dv_neB, dv_lt, dv_le, dv_gt, dv_ge, ixk_some, dv_ixT, dv_ixL, dv_ixR, dv_ixDS, dv_ixDI, dv_slT, dv_slL, dv_slR, dv_lenT, dv_lenL, dv_lenR, dv_lenD, dv_intI, dv_intB, dv_abs, dv_min, dv_max, dv_listT, dv_listL, dv_listR, dv_tupT, dv_tupL, dv_tupR, dv_get2S, dv_get2I, dv_dictD, at0, at1, at2, at3, at4, at5, ap_comp, optC_some, optC_none, cl_nil, cl_cons, wb_nil, wb_cons, wbS_un, wbS_fz, wp_nil, wp_cons, bk_nil, bk_cons, bkS_some, condK_true, condK_false, ap_turn, turnW_true, turnK_ok, ap_yes, ap_part, intK_int, nb_none, nb_some, slK_s, slV_some, pin_un, pin_fz, pin_ow, dv_isiII, dv_isiIB, ap_isi2, isi2K_at, isi2T_some, isi2B_some, ap_chain, chK_some, chS_true, chS_false, inS_some, notInS_some, dv_in, dv_notIn, inB_strsT, inB_strsL, inB_dic, inB_T1, inB_T2, inB_T3, dv_all, dv_any, ty_non, ty_bl, ty_int, ty_str, ty_tup, ty_lst, ty_dic, dv_isi, isiT_some, isiK_some, kb_nn, kb_nb, kb_ns, kb_nt, kb_nl, kb_bi, kb_bb, kb_bs, kb_bt, kb_bl, kb_ii, kb_ib, kb_is, kb_it, kb_il, kb_si, kb_sb, kb_ss, kb_st, kb_sl, kb_ti, kb_tb, kb_ts, kb_tt, kb_tl, kb_li, kb_lb, kb_ls, kb_lt, kb_ll, kb_di, kb_db, kb_ds, kb_dt, kb_dl, i2_n, i2_b, i2_i, i2_s, i2_t, i2_l, List.map_cons, List.map_nil, List.cons_append, List.nil_append, List.replicate_succ, List.replicate_zero, List.append_nil, List.length_cons, List.length_nil, List.getElem?_cons_zero, List.getElem?_cons_succ, List.set_cons_zero, List.set_cons_succ, List.all_cons, List.all_nil, Option.map_some, ↓reduceIte, Nat.reduceAdd, Nat.reduceSub, Nat.reduceEqDiff, Bool.and_true, Bool.true_and, Bool.and_false, Bool.false_and, Bool.not_true, Bool.not_false, Bool.or_false, Bool.or_true, Bool.false_or, Bool.true_or, decide_true, decide_false, eq_self, String.reduceEq, Int.reduceEq, Int.reduceLT, Int.reduceLE, run_A, tupK_ok, lstK_ok, compK_ok, ap_tgT_tup, ap_tgT_pr, ap_tgT_lst, sizeLine_eq, Nat.reduceLeDiff, Nat.reduceLT, str_eq, Int.reducePow, Nat.reducePow, Int.reduceToNat, Int.reduceNeg, Int.cast_ofNat_Int, Nat.reduceBNe, hd, h2, st_left, dv_setS, st_len, st_putl, a6, Sm.d]
      · exact leafCase hA hB
theorem sum_spec (k : Int) (l : LX) (hk : 0 ≤ k) (hk2 : k + 100 < 2 ^ 32) : ∃ (s : Sm) (k' : Int) (l' : LX), s.ok ∧ s.deep ≤ 5 ∧ k ≤ k' ∧ k' ≤ k + 100 ∧
    ∀ n, 8 ≤ n → fn n 9 [.io (.dic (stt ns k l)), .fz (.lst (L.map D.str))] = .ok (.v s.d) [some (.dic (stt ns k' l')), none] := by
  have t4 : TT 4 = 78 := rfl
  obtain ⟨q, q1, q2, q3⟩ := pick_spec ns hl k 4 l (by omega) (by omega) (by decide)
  obtain ⟨v, hv⟩ : ∃ v : Int, atI [D.int 0, D.int 2, D.int 5, D.int 11] q = some (.int v) := by
    have : q = 0 ∨ q = 1 ∨ q = 2 ∨ q = 3 := by omega
    rcases this with rfl | rfl | rfl | rfl
    · exact ⟨0, rfl⟩
    · exact ⟨2, rfl⟩
    · exact ⟨5, rfl⟩
    · exact ⟨11, rfl⟩
  obtain ⟨s, k1, l1, a1, a2, a3, a4, a5⟩ := sum_in_spec ns hl L hL hL2 hL3 l.1 4 (k + 1) v 1 (by decide) (by omega) (by omega)
  refine ⟨s, k1, (l.1, some l1), a1, a2, by omega, by omega, fun n hn => ?_⟩
  obtain ⟨n, rfl⟩ : ∃ m, n = m + 1 := ⟨n - 1, by omega⟩
  have q4 := q3 n (by omega)
  have a6 := a5 n (by omega)
  rw [fn_succ]
  simp only [step, m_law_sum, c_law_sum, ob_ok, ob_stuck, ob_exc, ap_ret, ap_fail, ap_bnd, ap_var, var_fz, var_ow, var_io, var_bw, ap_K, ap_op, op_v, op_o, op_s, ap_val, take_v, take_o, take_s, takeS_fz, takeS_ow, view_v, view_o, view_s, viewS_fz, viewS_ow, viewS_io, viewS_bw, val_lst, val_dic, val_dit, sr_d, sr_nt, sr_ob, sr_no, ap_c1, c1k_some, ap_c2, c2k_some, arg_valm, arg_bwm, arg_iom, bwK_v, bwK_s, ioK_v, ioK_s, sq_nil, sq_cons, ap_cN, cNk_some, vs_nil, vs_cons, vsk_some, av_d, av_s, av_io, ar_nil, ar_cons, ark_some, arg_d, arg_s, arg_i, argS_fz, argS_ow, argS_io, argS_bw, argI_fz, argI_ow, argI_io, df_nil, df_d, df_s, df_io, ix_d, ix_s, ix_io, ap_call, callK_some, callD_true, callR_ok, rt_v, rt_o, ue_nil, ue_cons, uek_none, uek_ow, uek_io, of_nil, of_d, of_s, of_none, of_io, ap_B, br_v, ap_T, tru_non, tru_bl, tru_int, tru_tup, tru_lst, tru_scr, tru_dic, ap_not, notB_ok, ap_if, iteB_true, iteB_false, ap_and, ap_or, ap_andV, ap_orV, ap_notV, ap_seq, seqB_nx, seqB_rt, seqB_bk, seqB_ct, ap_nx, ap_bk, ap_ct, ap_sret, ap_sretN, ap_expr, ap_asg, asg_at, asg_vu, asg_vf, asg_vo, asg_ou, asg_of, asg_oo, asg_su, asg_sf, asg_so, asgJ_ow, asgJ_fz, ap_tgN, tgS_un, tgS_fz, tgS_ow, ap_tgNil, ap_tgCons, ap_asgT, ap_cSeq, sq_lst, sq_scr, sq_str, sq_tup, ap_rg1, ap_rg2, ap_for, for_nil, for_cons, forK_nx, forK_ct, forK_bk, forK_rt, tk_nil, tk_cons, ap_tup, ap_lst, ap_dic0, pm_nil, pm_cons, ap_dic, dicK_ok, ap_sl, slK_v, part_none, ap_kind, kd_dic, ap_get2, g2K_some, ap_get1, g1K_some, ap_oa, oa_ow, oa_io, ap_ot, ot_lst, ot_lstI, ot_dic, ot_dicI, ap_wr, wr_ow, wr_io, wrO_some, wrI_some, ap_set, ap_mut, run_F, runK_ok, fin_at, fin_nx, fin_v, fin_o, fin_s, finS_ow, finS_fz, outs_nil, outs_fz, outs_bw, outs_io, en_at, slot_fz, slot_io, slot_bw, dv_add, dv_sub, dv_neg, dv_eqI, dv_eqS, dv_eqB, dv_neI, dv_neS, dv_neB, dv_lt, dv_le, dv_gt, dv_ge, ixk_some, dv_ixT, dv_ixL, dv_ixR, dv_ixDS, dv_ixDI, dv_slT, dv_slL, dv_slR, dv_lenT, dv_lenL, dv_lenR, dv_lenD, dv_intI, dv_intB, dv_abs, dv_min, dv_max, dv_listT, dv_listL, dv_listR, dv_tupT, dv_tupL, dv_tupR, dv_get2S, dv_get2I, dv_dictD, at0, at1, at2, at3, at4, at5, ap_comp, optC_some, optC_none, cl_nil, cl_cons, wb_nil, wb_cons, wbS_un, wbS_fz, wp_nil, wp_cons, bk_nil, bk_cons, bkS_some, condK_true, condK_false, ap_turn, turnW_true, turnK_ok, ap_yes, ap_part, intK_int, nb_none, nb_some, slK_s, slV_some, pin_un, pin_fz, pin_ow, dv_isiII, dv_isiIB, ap_isi2, isi2K_at, isi2T_some, isi2B_some, ap_chain, chK_some, chS_true, chS_false, inS_some, notInS_some, dv_in, dv_notIn, inB_strsT, inB_strsL, inB_dic, inB_T1, inB_T2, inB_T3, dv_all, dv_any, ty_non, ty_bl, ty_int, ty_str, ty_tup, ty_lst, ty_dic, dv_isi, isiT_some, isiK_some, kb_nn, kb_nb, kb_ns, kb_nt, kb_nl, kb_bi, kb_bb, kb_bs, kb_bt, kb_bl, kb_ii, kb_ib, kb_is, kb_it, kb_il, kb_si, kb_sb, kb_ss, kb_st, kb_sl, kb_ti, kb_tb, kb_ts, kb_tt, kb_tl, kb_li, kb_lb, kb_ls, kb_lt, kb_ll, kb_di, kb_db, kb_ds, kb_dt, kb_dl, i2_n, i2_b, i2_i, i2_s, i2_t, i2_l, List.map_cons, List.map_nil, List.cons_append, List.nil_append, List.replicate_succ, List.replicate_zero, List.append_nil, List.length_cons, List.length_nil, List.getElem?_cons_zero, List.getElem?_cons_succ, List.set_cons_zero, List.set_cons_succ, List.all_cons, List.all_nil, Option.map_some, ↓reduceIte, Nat.reduceAdd, Nat.reduceSub, Nat.reduceEqDiff, Bool.and_true, Bool.true_and, Bool.and_false, Bool.false_and, Bool.not_true, Bool.not_false, Bool.or_false, Bool.or_true, Bool.false_or, Bool.true_or, decide_true, decide_false, eq_self, String.reduceEq, Int.reduceEq, Int.reduceLT, Int.reduceLE, run_A, tupK_ok, lstK_ok, compK_ok, ap_tgT_tup, ap_tgT_pr, ap_tgT_lst, sizeLine_eq, Nat.reduceLeDiff, Nat.reduceLT, str_eq, Int.reducePow, Nat.reducePow, Int.reduceToNat, Int.reduceNeg, Int.cast_ofNat_Int, Nat.reduceBNe, q4, hv, dv_setS, st_len, st_putl, a6]
end
end K01

namespace K01
open PySem PySem.Spec L2 PyProof.Rows PV
local macro_rules | `(tactic| simp! [$ls,*]) => `(tactic| simp only [ob_ok, ob_stuck, ob_exc, ap_ret, ap_fail, ap_bnd, ap_var, var_fz, var_ow, var_io, var_bw, ap_K, ap_op, op_v, op_o, op_s, ap_val, take_v, take_o, take_s, takeS_fz, takeS_ow, view_v, view_o, view_s, viewS_fz, viewS_ow, viewS_io, viewS_bw, val_lst, val_dic, val_dit, sr_d, sr_nt, sr_ob, sr_no, ap_c1, c1k_some, ap_c2, c2k_some, arg_valm, arg_bwm, arg_iom, bwK_v, bwK_s, ioK_v, ioK_s, sq_nil, sq_cons, ap_cN, cNk_some, vs_nil, vs_cons, vsk_some, av_d, av_s, av_io, ar_nil, ar_cons, ark_some, arg_d, arg_s, arg_i, argS_fz, argS_ow, argS_io, argS_bw, argI_fz, argI_ow, argI_io, df_nil, df_d, df_s, df_io, ix_d, ix_s, ix_io, ap_call, callK_some, callD_true, callR_ok, rt_v, rt_o, ue_nil, ue_cons, uek_none, uek_ow, uek_io, of_nil, of_d, of_s, of_none, of_io, ap_B, br_v, ap_T, tru_non, tru_bl, tru_int, tru_tup, tru_lst, tru_scr, tru_dic, ap_not, notB_ok, ap_if, iteB_true, iteB_false, ap_and, ap_or, ap_andV, ap_orV, ap_notV, ap_seq, seqB_nx, seqB_rt, seqB_bk, seqB_ct, ap_nx, ap_bk, ap_ct, ap_sret, ap_sretN, ap_expr, ap_asg, asg_at, asg_vu, asg_vf, asg_vo, asg_ou, asg_of, asg_oo, asg_su, asg_sf, asg_so, asgJ_ow, asgJ_fz, ap_tgN, tgS_un, tgS_fz, tgS_ow, ap_tgNil, ap_tgCons, ap_asgT, ap_cSeq, sq_lst, sq_scr, sq_str, sq_tup, ap_rg1, ap_rg2, ap_for, for_nil, for_cons, forK_nx, forK_ct, forK_bk, forK_rt, tk_nil, tk_cons, ap_tup, ap_lst, ap_dic0, pm_nil, pm_cons, ap_dic, dicK_ok, ap_sl, slK_v, part_none, ap_kind, kd_dic, ap_get2, g2K_some, ap_get1, g1K_some, ap_oa, oa_ow, oa_io, ap_ot, ot_lst, ot_lstI, ot_dic, ot_dicI, ap_wr, wr_ow, wr_io, wrO_some, wrI_some, ap_set, ap_mut, run_F, runK_ok, fin_at, fin_nx, fin_v, fin_o, fin_s, finS_ow, finS_fz, outs_nil, outs_fz, outs_bw, outs_io, en_at, slot_fz, slot_io, slot_bw, dv_add, dv_sub, dv_neg, dv_eqI, dv_eqS, dv_eqB, dv_neI, dv_neS, dv_neB, dv_lt, dv_le, dv_gt, dv_ge, ixk_some, dv_ixT, dv_ixL, dv_ixR, dv_ixDS, dv_ixDI, dv_slT, dv_slL, dv_slR, dv_lenT, dv_lenL, dv_lenR, dv_lenD, dv_intI, dv_intB, dv_abs, dv_min, dv_max, dv_listT, dv_listL, dv_listR, dv_tupT, dv_tupL, dv_tupR, dv_get2S, dv_get2I, dv_dictD, at0, at1, at2, at3, at4, at5, ap_comp, optC_some, optC_none, cl_nil, cl_cons, wb_nil, wb_cons, wbS_un, wbS_fz, wp_nil, wp_cons, bk_nil, bk_cons, bkS_some, condK_true, condK_false, ap_turn, turnW_true, turnK_ok, ap_yes, ap_part, intK_int, nb_none, nb_some, slK_s, slV_some, pin_un, pin_fz, pin_ow, dv_isiII, dv_isiIB, ap_isi2, isi2K_at, isi2T_some, isi2B_some, ap_chain, chK_some, chS_true, chS_false, inS_some, notInS_some, dv_in, dv_notIn, inB_strsT, inB_strsL, inB_dic, inB_T1, inB_T2, inB_T3, dv_all, dv_any, ty_non, ty_bl, ty_int, ty_str, ty_tup, ty_lst, ty_dic, dv_isi, isiT_some, isiK_some, kb_nn, kb_nb, kb_ns, kb_nt, kb_nl, kb_bi, kb_bb, kb_bs, kb_bt, kb_bl, kb_ii, kb_ib, kb_is, kb_it, kb_il, kb_si, kb_sb, kb_ss, kb_st, kb_sl, kb_ti, kb_tb, kb_ts, kb_tt, kb_tl, kb_li, kb_lb, kb_ls, kb_lt, kb_ll, kb_di, kb_db, kb_ds, kb_dt, kb_dl, i2_n, i2_b, i2_i, i2_s, i2_t, i2_l, List.map_cons, List.map_nil, List.cons_append, List.nil_append, List.replicate_succ, List.replicate_zero, List.append_nil, List.length_cons, List.length_nil, List.getElem?_cons_zero, List.getElem?_cons_succ, List.set_cons_zero, List.set_cons_succ, List.all_cons, List.all_nil, Option.map_some, ↓reduceIte, Nat.reduceAdd, Nat.reduceSub, Nat.reduceEqDiff, Bool.and_true, Bool.true_and, Bool.and_false, Bool.false_and, Bool.not_true, Bool.not_false, Bool.or_false, Bool.or_true, Bool.false_or, Bool.true_or, decide_true, decide_false, eq_self, String.reduceEq, Int.reduceEq, Int.reduceLT, Int.reduceLE, run_A, tupK_ok, lstK_ok, compK_ok, ap_tgT_tup, ap_tgT_pr, ap_tgT_lst, sizeLine_eq, Nat.reduceLeDiff, Nat.reduceLT, str_eq, Int.reducePow, Nat.reducePow, Int.reduceToNat, Int.reduceNeg, Int.cast_ofNat_Int, Nat.reduceBNe, Wp_ok, WpM_ok, asg_vw, asg_ow', asg_sw, tgS_w, wbS_w, asg_vx, asg_ox, asg_sx, tgS_x, inB_T4, inB_T5, inB_T6, inB_T7, inB_T8, ap_or, ap_and, ap_andV, ap_orV, ap_not, optL, true_and, and_true, Int.reduceSub, Int.reduceAdd, Int.reduceMul, Int.reduceMod, $ls,*])
local macro_rules | `(tactic| simp!) => `(tactic| simp only [ob_ok, ob_stuck, ob_exc, ap_ret, ap_fail, ap_bnd, ap_var, var_fz, var_ow, var_io, var_bw, ap_K, ap_op, op_v, op_o, op_s, ap_val, take_v, take_o, take_s, takeS_fz, takeS_ow, view_v, view_o, view_s, viewS_fz, viewS_ow, viewS_io, viewS_bw, val_lst, val_dic, val_dit, sr_d, sr_nt, sr_ob, sr_no, ap_c1, c1k_some, ap_c2, c2k_some, arg_valm, arg_bwm, arg_iom, bwK_v, bwK_s, ioK_v, ioK_s, sq_nil, sq_cons, ap_cN, cNk_some, vs_nil, vs_cons, vsk_some, av_d, av_s, av_io, ar_nil, ar_cons, ark_some, arg_d, arg_s, arg_i, argS_fz, argS_ow, argS_io, argS_bw, argI_fz, argI_ow, argI_io, df_nil, df_d, df_s, df_io, ix_d, ix_s, ix_io, ap_call, callK_some, callD_true, callR_ok, rt_v, rt_o, ue_nil, ue_cons, uek_none, uek_ow, uek_io, of_nil, of_d, of_s, of_none, of_io, ap_B, br_v, ap_T, tru_non, tru_bl, tru_int, tru_tup, tru_lst, tru_scr, tru_dic, ap_not, notB_ok, ap_if, iteB_true, iteB_false, ap_and, ap_or, ap_andV, ap_orV, ap_notV, ap_seq, seqB_nx, seqB_rt, seqB_bk, seqB_ct, ap_nx, ap_bk, ap_ct, ap_sret, ap_sretN, ap_expr, ap_asg, asg_at, asg_vu, asg_vf, asg_vo, asg_ou, asg_of, asg_oo, asg_su, asg_sf, asg_so, asgJ_ow, asgJ_fz, ap_tgN, tgS_un, tgS_fz, tgS_ow, ap_tgNil, ap_tgCons, ap_asgT, ap_cSeq, sq_lst, sq_scr, sq_str, sq_tup, ap_rg1, ap_rg2, ap_for, for_nil, for_cons, forK_nx, forK_ct, forK_bk, forK_rt, tk_nil, tk_cons, ap_tup, ap_lst, ap_dic0, pm_nil, pm_cons, ap_dic, dicK_ok, ap_sl, slK_v, part_none, ap_kind, kd_dic, ap_get2, g2K_some, ap_get1, g1K_some, ap_oa, oa_ow, oa_io, ap_ot, ot_lst, ot_lstI, ot_dic, ot_dicI, ap_wr, wr_ow, wr_io, wrO_some, wrI_some, ap_set, ap_mut, run_F, runK_ok, fin_at, fin_nx, fin_v, fin_o, fin_s, finS_ow, finS_fz, outs_nil, outs_fz, outs_bw, outs_io, en_at, slot_fz, slot_io, slot_bw, dv_add, dv_sub, dv_neg, dv_eqI, dv_eqS, dv_eqB, dv_neI, dv_neS, dv_neB, dv_lt, dv_le, dv_gt, dv_ge, ixk_some, dv_ixT, dv_ixL, dv_ixR, dv_ixDS, dv_ixDI, dv_slT, dv_slL, dv_slR, dv_lenT, dv_lenL, dv_lenR, dv_lenD, dv_intI, dv_intB, dv_abs, dv_min, dv_max, dv_listT, dv_listL, dv_listR, dv_tupT, dv_tupL, dv_tupR, dv_get2S, dv_get2I, dv_dictD, at0, at1, at2, at3, at4, at5, ap_comp, optC_some, optC_none, cl_nil, cl_cons, wb_nil, wb_cons, wbS_un, wbS_fz, wp_nil, wp_cons, bk_nil, bk_cons, bkS_some, condK_true, condK_false, ap_turn, turnW_true, turnK_ok, ap_yes, ap_part, intK_int, nb_none, nb_some, slK_s, slV_some, pin_un, pin_fz, pin_ow, dv_isiII, dv_isiIB, ap_isi2, isi2K_at, isi2T_some, isi2B_some, ap_chain, chK_some, chS_true, chS_false, inS_some, notInS_some, dv_in, dv_notIn, inB_strsT, inB_strsL, inB_dic, inB_T1, inB_T2, inB_T3, dv_all, dv_any, ty_non, ty_bl, ty_int, ty_str, ty_tup, ty_lst, ty_dic, dv_isi, isiT_some, isiK_some, kb_nn, kb_nb, kb_ns, kb_nt, kb_nl, kb_bi, kb_bb, kb_bs, kb_bt, kb_bl, kb_ii, kb_ib, kb_is, kb_it, kb_il, kb_si, kb_sb, kb_ss, kb_st, kb_sl, kb_ti, kb_tb, kb_ts, kb_tt, kb_tl, kb_li, kb_lb, kb_ls, kb_lt, kb_ll, kb_di, kb_db, kb_ds, kb_dt, kb_dl, i2_n, i2_b, i2_i, i2_s, i2_t, i2_l, List.map_cons, List.map_nil, List.cons_append, List.nil_append, List.replicate_succ, List.replicate_zero, List.append_nil, List.length_cons, List.length_nil, List.getElem?_cons_zero, List.getElem?_cons_succ, List.set_cons_zero, List.set_cons_succ, List.all_cons, List.all_nil, Option.map_some, ↓reduceIte, Nat.reduceAdd, Nat.reduceSub, Nat.reduceEqDiff, Bool.and_true, Bool.true_and, Bool.and_false, Bool.false_and, Bool.not_true, Bool.not_false, Bool.or_false, Bool.or_true, Bool.false_or, Bool.true_or, decide_true, decide_false, eq_self, String.reduceEq, Int.reduceEq, Int.reduceLT, Int.reduceLE, run_A, tupK_ok, lstK_ok, compK_ok, ap_tgT_tup, ap_tgT_pr, ap_tgT_lst, sizeLine_eq, Nat.reduceLeDiff, Nat.reduceLT, str_eq, Int.reducePow, Nat.reducePow, Int.reduceToNat, Int.reduceNeg, Int.cast_ofNat_Int, Nat.reduceBNe, Wp_ok, WpM_ok, asg_vw, asg_ow', asg_sw, tgS_w, wbS_w, asg_vx, asg_ox, asg_sx, tgS_x, inB_T4, inB_T5, inB_T6, inB_T7, inB_T8, ap_or, ap_and, ap_andV, ap_orV, ap_not, optL, true_and, and_true, Int.reduceSub, Int.reduceAdd, Int.reduceMul, Int.reduceMod])
/-! ### whatever may be handed in -/
inductive Ok (m : Nat) : D → Prop
  | non : Ok m .non
  | bl (b : Bool) : Ok m (.bl b)
  | int (i : Int) : Ok m (.int i)
  | str {z : Str} (h : (PyData.str z).canLay0 = true) (h2 : z.length ≤ 1000) : Ok m (.str z)
  | lst (ds : List D) : Ok m (.lst ds)
  | dic (kvs : List (Key × D)) : Ok m (.dic kvs)
  | tup {ds : List D} (h : ds.length ≤ m) (h2 : ∀ d ∈ ds, Ok m d) : Ok m (.tup ds)
theorem Ok.any {m : Nat} {d : D} (h : Ok m d) : Any0 d := by cases h <;> trivial
/-! ### names -/
def L21 : List Str := ["let", "leap", "get", "put", "take", "free", "send", "fetch", "say", "clock", "lot", "hear", "add", "sub", "mul", "less", "same", "not", "box", "lock", "lane"]
def DH : List Str := ["door", "hand"]
def LANG : List Str := L21 ++ DH
def ABC : Str := "abcdefghijklmnopqrstuvwxyz"
def nameB (z : Str) : Bool := (decide (1 ≤ z.length) && decide (z.length ≤ 8)) && (!decide (z ∈ LANG) && z.cps.toList.all fun c => decide (c ∈ ABC.cps.toList))
def nameD : D → Bool
  | .str z => nameB z
  | _ => false
theorem in_sign (c : Nat) : inB (.str ⟨#[c]⟩) (.str "abcdefghijklmnopqrstuvwxyz") = some (decide (c ∈ ABC.cps.toList)) := rfl
theorem len_str {z : Str} (h : z.length ≤ 1000) : lenD [.str z] = .d (.int (z.length : Int)) := if_pos (by rw [sizeLine_eq]; omega)
theorem is_name_spec {m : Nat} {d : D} (h : Ok m d) (n : Nat) (hn : 1 ≤ n) : fn n 0 [.fz d] = .ok (.v (.bl (nameD d))) [none] := by
  obtain ⟨n, rfl⟩ : ∃ m, n = m + 1 := ⟨n - 1, by omega⟩
  rw [fn_succ]
  cases h with
  | non => simp! [step, m_is_name, c_is_name, nameD]
  | bl b => simp! [step, m_is_name, c_is_name, nameD]
  | int i => simp! [step, m_is_name, c_is_name, nameD]
  | lst ds => simp! [step, m_is_name, c_is_name, nameD]
  | dic ds => simp! [step, m_is_name, c_is_name, nameD]
  | tup h1 h2 => simp! [step, m_is_name, c_is_name, nameD]
  | @str z h1 h2 =>
    have ln := len_str h2
    have il := @inB_strsT z LANG
    conv at il => lhs; simp only [LANG, L21, DH, List.map_append, List.map_cons, List.map_nil, List.cons_append, List.nil_append]
    by_cases a1 : 1 ≤ (z.length : Int)
    · have b1 : 1 ≤ z.length := by omega
      by_cases a2 : (z.length : Int) ≤ 8
      · have b2 : z.length ≤ 8 := by omega
        by_cases a3 : z ∈ LANG
        · simp! [step, m_is_name, c_is_name, nameD, nameB, ln, il, a1, a2, a3, dv_in]
        · simp! [step, m_is_name, c_is_name, nameD, nameB, ln, il, a1, a2, a3, b1, b2, dv_in]
          generalize hX : compL _ _ _ _ _ _ = X
          have e := comp_fm' hX (fun d => match d with | .str w => some (.bl (decide (w.cps.getD 0 0 ∈ ABC.cps.toList))) | _ => none) (by
            intro d hd
            obtain ⟨c, hc, rfl⟩ := List.mem_map.mp hd
            have i := in_sign c
            simp! [dv_in, i]
            rfl)
          have e2 : ∀ l : List Nat, (l.map fun c => D.str ⟨#[c]⟩).filterMap (fun d => match d with | .str w => some (D.bl (decide (w.cps.getD 0 0 ∈ ABC.cps.toList))) | _ => none) = (l.map fun c => decide (c ∈ ABC.cps.toList)).map D.bl := by
            intro l
            induction l with
            | nil => rfl
            | cons a l ih =>
              simp only [List.map_cons, List.filterMap_cons, ih]; rfl
          have e3 : (signsD z).filterMap (fun d => match d with | .str w => some (D.bl (decide (w.cps.getD 0 0 ∈ ABC.cps.toList))) | _ => none) = (z.cps.toList.map fun c => decide (c ∈ ABC.cps.toList)).map D.bl := e2 _
          rw [e3] at e
          subst e
          have al := @dv_all (z.cps.toList.map fun c => decide (c ∈ ABC.cps.toList))
          have e4 : (z.cps.toList.map fun c => decide (c ∈ ABC.cps.toList)).all id = z.cps.toList.all fun c => decide (c ∈ ABC.cps.toList) := by rw [List.all_map]; rfl
          rw [e4] at al
          have hz : ((z.cps.toList.map fun c => decide (c ∈ ABC.cps.toList)).map D.bl).length ≤ 16777216 := by rw [List.length_map, List.length_map]; show z.length ≤ _; omega
          simp! [al, hz]
      · have b2 : ¬ z.length ≤ 8 := by omega
        simp! [step, m_is_name, c_is_name, nameD, nameB, ln, il, a1, a2, b1, b2, dv_in]
    · have b1 : ¬ 1 ≤ z.length := by omega
      simp! [step, m_is_name, c_is_name, nameD, nameB, ln, il, a1, b1, dv_in]
theorem split21 : Txt.split "let leap get put take free send fetch say clock lot hear add sub mul less same not box lock lane" " " = L21 := by decide +kernel
theorem split21D : splitF " " (.str "let leap get put take free send fetch say clock lot hear add sub mul less same not box lock lane") = .ob (.lst (L21.map D.str)) := by
  rw [dv_split (by decide +kernel) (by decide +kernel), split21]
theorem notin_sign (c : Nat) : inB (.str ⟨#[c]⟩) (.str "abcdefghijklmnopqrstuvwxyz") = some (decide (c ∈ ABC.cps.toList)) := rfl
theorem law_name_spec {m : Nat} {d : D} (h : Ok m d) (n : Nat) (hn : 1 ≤ n) : fn n 13 [.fz d] = .ok (.v (.bl (nameD d))) [none] := by
  obtain ⟨n, rfl⟩ : ∃ m, n = m + 1 := ⟨n - 1, by omega⟩
  rw [fn_succ]
  cases h with
  | non => simp! [step, m_law_is_name, c_law_is_name, nameD]
  | bl b => simp! [step, m_law_is_name, c_law_is_name, nameD]
  | int i => simp! [step, m_law_is_name, c_law_is_name, nameD]
  | lst ds => simp! [step, m_law_is_name, c_law_is_name, nameD]
  | dic ds => simp! [step, m_law_is_name, c_law_is_name, nameD]
  | tup h1 h2 => simp! [step, m_law_is_name, c_law_is_name, nameD]
  | @str z h1 h2 =>
    have ln := len_str h2
    by_cases c1 : z ∈ L21
    · have a3 : z ∈ LANG := List.mem_append_left _ c1
      simp! [step, m_law_is_name, c_law_is_name, nameD, nameB, split21D, inB_strsL, dv_in, c1, a3]
    · by_cases c2 : z ∈ DH
      · have a3 : z ∈ LANG := List.mem_append_right _ c2
        have c3 : (decide (("door" : Str) = z) || decide (("hand" : Str) = z)) = true := by
          simp only [DH, List.mem_cons, List.not_mem_nil, or_false] at c2
          rcases c2 with rfl | rfl <;> simp
        simp! [step, m_law_is_name, c_law_is_name, nameD, nameB, split21D, inB_strsL, dv_in, c1, a3, c3]
      · have a3 : ¬ z ∈ LANG := fun q => (List.mem_append.mp q).elim c1 c2
        have c3 : (decide (("door" : Str) = z) || decide (("hand" : Str) = z)) = false := by
          simp only [DH, List.mem_cons, List.not_mem_nil, or_false, not_or] at c2
          simp [Ne.symm c2.1, Ne.symm c2.2, eq_comm, c2]
        by_cases a1 : 0 < (z.length : Int)
        · have b1 : 1 ≤ z.length := by omega
          by_cases a2 : (z.length : Int) < 9
          · have b2 : z.length ≤ 8 := by omega
            simp! [step, m_law_is_name, c_law_is_name, nameD, nameB, split21D, inB_strsL, dv_in, c1, a3, c3, ln, a1, a2, b1, b2]
            generalize hX : compL _ _ _ _ _ _ = X
            have e := comp_fm' hX (fun d => match d with | .str w => if decide (w.cps.getD 0 0 ∈ ABC.cps.toList) = true then none else some (.str w) | _ => none) (by
              intro d hd
              obtain ⟨c, hc, rfl⟩ := List.mem_map.mp hd
              have i := in_sign c
              by_cases q : c ∈ ABC.cps.toList
              · simp! [dv_notIn, i, q]
                rw [if_pos]
                exact decide_eq_true q
              · simp! [dv_notIn, i, q]
                rw [if_neg]
                intro q'; exact q (of_decide_eq_true q'))
            have hcl : ∀ c ∈ z.cps.toList, (PyData.str ⟨#[c]⟩).canLay0 = true := by
              intro c hc
              rw [PyData.canLay0] at h1 ⊢
              simp only [PyData.strOk, Array.all_eq_true, decide_eq_true_eq] at h1 ⊢
              obtain ⟨i, hi, rfl⟩ := List.getElem_of_mem hc
              intro j hj
              have : j = 0 := by simpa using hj
              subst this
              simpa using h1 i (by simpa using hi)
            have e2 : ∀ l : List Nat, (∀ c ∈ l, (PyData.str ⟨#[c]⟩).canLay0 = true) → ∃ F : List D, (l.map fun c => D.str ⟨#[c]⟩).filterMap (fun d => match d with | .str w => if decide (w.cps.getD 0 0 ∈ ABC.cps.toList) = true then none else some (D.str w) | _ => none) = F ∧ F.length ≤ l.length ∧ (∀ d ∈ F, Gd 59 d) ∧ F.isEmpty = l.all fun c => decide (c ∈ ABC.cps.toList) := by
              intro l hl
              induction l with
              | nil => exact ⟨[], rfl, Nat.le_refl _, (fun d hd => by cases hd), rfl⟩
              | cons a l ih =>
                obtain ⟨F, f1, f2, f3, f4⟩ := ih fun c hc => hl c (List.mem_cons_of_mem _ hc)
                by_cases q : a ∈ ABC.cps.toList
                · refine ⟨F, ?_, by simp only [List.length_cons]; omega, f3, by rw [f4, List.all_cons, decide_eq_true q, Bool.true_and]⟩
                  rw [List.map_cons, List.filterMap_cons_none (by show (if decide (a ∈ ABC.cps.toList) = true then none else some (D.str ⟨#[a]⟩)) = none; rw [if_pos (decide_eq_true q)]), f1]
                · refine ⟨D.str ⟨#[a]⟩ :: F, ?_, by simp only [List.length_cons]; omega, ?_, by rw [List.all_cons, decide_eq_false q]; rfl⟩
                  · rw [List.map_cons, List.filterMap_cons_some (b := D.str ⟨#[a]⟩) (by show (if decide (a ∈ ABC.cps.toList) = true then none else some (D.str ⟨#[a]⟩)) = _; rw [if_neg (by rw [decide_eq_false q]; exact Bool.false_ne_true)]), f1]
                  · intro d hd
                    rcases List.mem_cons.mp hd with rfl | hd
                    · exact hl a (List.mem_cons_self ..)
                    · exact f3 d hd
            obtain ⟨F, f1, f2, f3, f4⟩ := e2 z.cps.toList hcl
            have f5 : X = .ok F [.fz (.str z), .fz (.str "let leap get put take free send fetch say clock lot hear add sub mul less same not box lock lane"), .un] := by rw [e]; congr 1
            subst f5
            have f6 : F.length ≤ 16777216 := by
              have : z.cps.toList.length = z.length := Array.length_toList
              omega
            have f7 := eq_nilG f3
            simp! [f6, f7, f4]
          · have b2 : ¬ z.length ≤ 8 := by omega
            simp! [step, m_law_is_name, c_law_is_name, nameD, nameB, split21D, inB_strsL, dv_in, c1, a3, c3, ln, a1, a2, b1, b2]
        · have b1 : ¬ 1 ≤ z.length := by omega
          simp! [step, m_law_is_name, c_law_is_name, nameD, nameB, split21D, inB_strsL, dv_in, c1, a3, c3, ln, a1, b1]
end K01

namespace K01
open PySem PySem.Spec L2 PyProof.Rows PV
local macro_rules | `(tactic| simp! [$ls,*]) => `(tactic| simp only [ob_ok, ob_stuck, ob_exc, ap_ret, ap_fail, ap_bnd, ap_var, var_fz, var_ow, var_io, var_bw, ap_K, ap_op, op_v, op_o, op_s, ap_val, take_v, take_o, take_s, takeS_fz, takeS_ow, view_v, view_o, view_s, viewS_fz, viewS_ow, viewS_io, viewS_bw, val_lst, val_dic, val_dit, sr_d, sr_nt, sr_ob, sr_no, ap_c1, c1k_some, ap_c2, c2k_some, arg_valm, arg_bwm, arg_iom, bwK_v, bwK_s, ioK_v, ioK_s, sq_nil, sq_cons, ap_cN, cNk_some, vs_nil, vs_cons, vsk_some, av_d, av_s, av_io, ar_nil, ar_cons, ark_some, arg_d, arg_s, arg_i, argS_fz, argS_ow, argS_io, argS_bw, argI_fz, argI_ow, argI_io, df_nil, df_d, df_s, df_io, ix_d, ix_s, ix_io, ap_call, callK_some, callD_true, callR_ok, rt_v, rt_o, ue_nil, ue_cons, uek_none, uek_ow, uek_io, of_nil, of_d, of_s, of_none, of_io, ap_B, br_v, ap_T, tru_non, tru_bl, tru_int, tru_tup, tru_lst, tru_scr, tru_dic, ap_not, notB_ok, ap_if, iteB_true, iteB_false, ap_and, ap_or, ap_andV, ap_orV, ap_notV, ap_seq, seqB_nx, seqB_rt, seqB_bk, seqB_ct, ap_nx, ap_bk, ap_ct, ap_sret, ap_sretN, ap_expr, ap_asg, asg_at, asg_vu, asg_vf, asg_vo, asg_ou, asg_of, asg_oo, asg_su, asg_sf, asg_so, asgJ_ow, asgJ_fz, ap_tgN, tgS_un, tgS_fz, tgS_ow, ap_tgNil, ap_tgCons, ap_asgT, ap_cSeq, sq_lst, sq_scr, sq_str, sq_tup, ap_rg1, ap_rg2, ap_for, for_nil, for_cons, forK_nx, forK_ct, forK_bk, forK_rt, tk_nil, tk_cons, ap_tup, ap_lst, ap_dic0, pm_nil, pm_cons, ap_dic, dicK_ok, ap_sl, slK_v, part_none, ap_kind, kd_dic, ap_get2, g2K_some, ap_get1, g1K_some, ap_oa, oa_ow, oa_io, ap_ot, ot_lst, ot_lstI, ot_dic, ot_dicI, ap_wr, wr_ow, wr_io, wrO_some, wrI_some, ap_set, ap_mut, run_F, runK_ok, fin_at, fin_nx, fin_v, fin_o, fin_s, finS_ow, finS_fz, outs_nil, outs_fz, outs_bw, outs_io, en_at, slot_fz, slot_io, slot_bw, dv_add, dv_sub, dv_neg, dv_eqI, dv_eqS, dv_eqB, dv_neI, dv_neS, dv_neB, dv_lt, dv_le, dv_gt, dv_ge, ixk_some, dv_ixT, dv_ixL, dv_ixR, dv_ixDS, dv_ixDI, dv_slT, dv_slL, dv_slR, dv_lenT, dv_lenL, dv_lenR, dv_lenD, dv_intI, dv_intB, dv_abs, dv_min, dv_max, dv_listT, dv_listL, dv_listR, dv_tupT, dv_tupL, dv_tupR, dv_get2S, dv_get2I, dv_dictD, at0, at1, at2, at3, at4, at5, ap_comp, optC_some, optC_none, cl_nil, cl_cons, wb_nil, wb_cons, wbS_un, wbS_fz, wp_nil, wp_cons, bk_nil, bk_cons, bkS_some, condK_true, condK_false, ap_turn, turnW_true, turnK_ok, ap_yes, ap_part, intK_int, nb_none, nb_some, slK_s, slV_some, pin_un, pin_fz, pin_ow, dv_isiII, dv_isiIB, ap_isi2, isi2K_at, isi2T_some, isi2B_some, ap_chain, chK_some, chS_true, chS_false, inS_some, notInS_some, dv_in, dv_notIn, inB_strsT, inB_strsL, inB_dic, inB_T1, inB_T2, inB_T3, dv_all, dv_any, ty_non, ty_bl, ty_int, ty_str, ty_tup, ty_lst, ty_dic, dv_isi, isiT_some, isiK_some, kb_nn, kb_nb, kb_ns, kb_nt, kb_nl, kb_bi, kb_bb, kb_bs, kb_bt, kb_bl, kb_ii, kb_ib, kb_is, kb_it, kb_il, kb_si, kb_sb, kb_ss, kb_st, kb_sl, kb_ti, kb_tb, kb_ts, kb_tt, kb_tl, kb_li, kb_lb, kb_ls, kb_lt, kb_ll, kb_di, kb_db, kb_ds, kb_dt, kb_dl, i2_n, i2_b, i2_i, i2_s, i2_t, i2_l, List.map_cons, List.map_nil, List.cons_append, List.nil_append, List.replicate_succ, List.replicate_zero, List.append_nil, List.length_cons, List.length_nil, List.getElem?_cons_zero, List.getElem?_cons_succ, List.set_cons_zero, List.set_cons_succ, List.all_cons, List.all_nil, Option.map_some, ↓reduceIte, Nat.reduceAdd, Nat.reduceSub, Nat.reduceEqDiff, Bool.and_true, Bool.true_and, Bool.and_false, Bool.false_and, Bool.not_true, Bool.not_false, Bool.or_false, Bool.or_true, Bool.false_or, Bool.true_or, decide_true, decide_false, eq_self, String.reduceEq, Int.reduceEq, Int.reduceLT, Int.reduceLE, run_A, tupK_ok, lstK_ok, compK_ok, ap_tgT_tup, ap_tgT_pr, ap_tgT_lst, sizeLine_eq, Nat.reduceLeDiff, Nat.reduceLT, str_eq, Int.reducePow, Nat.reducePow, Int.reduceToNat, Int.reduceNeg, Int.cast_ofNat_Int, Nat.reduceBNe, Wp_ok, WpM_ok, asg_vw, asg_ow', asg_sw, tgS_w, wbS_w, asg_vx, asg_ox, asg_sx, tgS_x, inB_T4, inB_T5, inB_T6, inB_T7, inB_T8, ap_or, ap_and, ap_andV, ap_orV, ap_not, optL, true_and, and_true, Int.reduceSub, Int.reduceAdd, Int.reduceMul, Int.reduceMod, $ls,*])
local macro_rules | `(tactic| simp!) => `(tactic| simp only [ob_ok, ob_stuck, ob_exc, ap_ret, ap_fail, ap_bnd, ap_var, var_fz, var_ow, var_io, var_bw, ap_K, ap_op, op_v, op_o, op_s, ap_val, take_v, take_o, take_s, takeS_fz, takeS_ow, view_v, view_o, view_s, viewS_fz, viewS_ow, viewS_io, viewS_bw, val_lst, val_dic, val_dit, sr_d, sr_nt, sr_ob, sr_no, ap_c1, c1k_some, ap_c2, c2k_some, arg_valm, arg_bwm, arg_iom, bwK_v, bwK_s, ioK_v, ioK_s, sq_nil, sq_cons, ap_cN, cNk_some, vs_nil, vs_cons, vsk_some, av_d, av_s, av_io, ar_nil, ar_cons, ark_some, arg_d, arg_s, arg_i, argS_fz, argS_ow, argS_io, argS_bw, argI_fz, argI_ow, argI_io, df_nil, df_d, df_s, df_io, ix_d, ix_s, ix_io, ap_call, callK_some, callD_true, callR_ok, rt_v, rt_o, ue_nil, ue_cons, uek_none, uek_ow, uek_io, of_nil, of_d, of_s, of_none, of_io, ap_B, br_v, ap_T, tru_non, tru_bl, tru_int, tru_tup, tru_lst, tru_scr, tru_dic, ap_not, notB_ok, ap_if, iteB_true, iteB_false, ap_and, ap_or, ap_andV, ap_orV, ap_notV, ap_seq, seqB_nx, seqB_rt, seqB_bk, seqB_ct, ap_nx, ap_bk, ap_ct, ap_sret, ap_sretN, ap_expr, ap_asg, asg_at, asg_vu, asg_vf, asg_vo, asg_ou, asg_of, asg_oo, asg_su, asg_sf, asg_so, asgJ_ow, asgJ_fz, ap_tgN, tgS_un, tgS_fz, tgS_ow, ap_tgNil, ap_tgCons, ap_asgT, ap_cSeq, sq_lst, sq_scr, sq_str, sq_tup, ap_rg1, ap_rg2, ap_for, for_nil, for_cons, forK_nx, forK_ct, forK_bk, forK_rt, tk_nil, tk_cons, ap_tup, ap_lst, ap_dic0, pm_nil, pm_cons, ap_dic, dicK_ok, ap_sl, slK_v, part_none, ap_kind, kd_dic, ap_get2, g2K_some, ap_get1, g1K_some, ap_oa, oa_ow, oa_io, ap_ot, ot_lst, ot_lstI, ot_dic, ot_dicI, ap_wr, wr_ow, wr_io, wrO_some, wrI_some, ap_set, ap_mut, run_F, runK_ok, fin_at, fin_nx, fin_v, fin_o, fin_s, finS_ow, finS_fz, outs_nil, outs_fz, outs_bw, outs_io, en_at, slot_fz, slot_io, slot_bw, dv_add, dv_sub, dv_neg, dv_eqI, dv_eqS, dv_eqB, dv_neI, dv_neS, dv_neB, dv_lt, dv_le, dv_gt, dv_ge, ixk_some, dv_ixT, dv_ixL, dv_ixR, dv_ixDS, dv_ixDI, dv_slT, dv_slL, dv_slR, dv_lenT, dv_lenL, dv_lenR, dv_lenD, dv_intI, dv_intB, dv_abs, dv_min, dv_max, dv_listT, dv_listL, dv_listR, dv_tupT, dv_tupL, dv_tupR, dv_get2S, dv_get2I, dv_dictD, at0, at1, at2, at3, at4, at5, ap_comp, optC_some, optC_none, cl_nil, cl_cons, wb_nil, wb_cons, wbS_un, wbS_fz, wp_nil, wp_cons, bk_nil, bk_cons, bkS_some, condK_true, condK_false, ap_turn, turnW_true, turnK_ok, ap_yes, ap_part, intK_int, nb_none, nb_some, slK_s, slV_some, pin_un, pin_fz, pin_ow, dv_isiII, dv_isiIB, ap_isi2, isi2K_at, isi2T_some, isi2B_some, ap_chain, chK_some, chS_true, chS_false, inS_some, notInS_some, dv_in, dv_notIn, inB_strsT, inB_strsL, inB_dic, inB_T1, inB_T2, inB_T3, dv_all, dv_any, ty_non, ty_bl, ty_int, ty_str, ty_tup, ty_lst, ty_dic, dv_isi, isiT_some, isiK_some, kb_nn, kb_nb, kb_ns, kb_nt, kb_nl, kb_bi, kb_bb, kb_bs, kb_bt, kb_bl, kb_ii, kb_ib, kb_is, kb_it, kb_il, kb_si, kb_sb, kb_ss, kb_st, kb_sl, kb_ti, kb_tb, kb_ts, kb_tt, kb_tl, kb_li, kb_lb, kb_ls, kb_lt, kb_ll, kb_di, kb_db, kb_ds, kb_dt, kb_dl, i2_n, i2_b, i2_i, i2_s, i2_t, i2_l, List.map_cons, List.map_nil, List.cons_append, List.nil_append, List.replicate_succ, List.replicate_zero, List.append_nil, List.length_cons, List.length_nil, List.getElem?_cons_zero, List.getElem?_cons_succ, List.set_cons_zero, List.set_cons_succ, List.all_cons, List.all_nil, Option.map_some, ↓reduceIte, Nat.reduceAdd, Nat.reduceSub, Nat.reduceEqDiff, Bool.and_true, Bool.true_and, Bool.and_false, Bool.false_and, Bool.not_true, Bool.not_false, Bool.or_false, Bool.or_true, Bool.false_or, Bool.true_or, decide_true, decide_false, eq_self, String.reduceEq, Int.reduceEq, Int.reduceLT, Int.reduceLE, run_A, tupK_ok, lstK_ok, compK_ok, ap_tgT_tup, ap_tgT_pr, ap_tgT_lst, sizeLine_eq, Nat.reduceLeDiff, Nat.reduceLT, str_eq, Int.reducePow, Nat.reducePow, Int.reduceToNat, Int.reduceNeg, Int.cast_ofNat_Int, Nat.reduceBNe, Wp_ok, WpM_ok, asg_vw, asg_ow', asg_sw, tgS_w, wbS_w, asg_vx, asg_ox, asg_sx, tgS_x, inB_T4, inB_T5, inB_T6, inB_T7, inB_T8, ap_or, ap_and, ap_andV, ap_orV, ap_not, optL, true_and, and_true, Int.reduceSub, Int.reduceAdd, Int.reduceMul, Int.reduceMod])
/-! ### numbers, sums -/
def isVal : D → Bool
  | .int i => decide (0 ≤ i) && decide (i ≤ 999)
  | _ => false
theorem number_spec {m : Nat} {d : D} (h : Ok m d) (n : Nat) (hn : 1 ≤ n) : fn n 1 [.fz d, .fz (.int 0), .fz (.int 999)] = .ok (.v (.bl (isVal d))) [none, none, none] := by
  obtain ⟨n, rfl⟩ : ∃ m, n = m + 1 := ⟨n - 1, by omega⟩
  rw [fn_succ]
  cases h with
  | non => simp! [step, m_is_number_to, c_is_number_to, isVal]
  | bl b => simp! [step, m_is_number_to, c_is_number_to, isVal]
  | int i => by_cases a1 : 0 ≤ i <;> by_cases a2 : i ≤ 999 <;> simp! [step, m_is_number_to, c_is_number_to, isVal, a1, a2]
  | str h1 h2 => simp! [step, m_is_number_to, c_is_number_to, isVal]
  | lst ds => simp! [step, m_is_number_to, c_is_number_to, isVal]
  | dic ds => simp! [step, m_is_number_to, c_is_number_to, isVal]
  | tup h1 h2 => simp! [step, m_is_number_to, c_is_number_to, isVal]
theorem law_whole_spec {m : Nat} {d : D} (h : Ok m d) (n : Nat) (hn : 1 ≤ n) : fn n 12 [.fz d, .fz (.int 0), .fz (.int 999)] = .ok (.v (.bl (isVal d))) [none, none, none] := by
  obtain ⟨n, rfl⟩ : ∃ m, n = m + 1 := ⟨n - 1, by omega⟩
  rw [fn_succ]
  cases h with
  | non => simp! [step, m_law_whole, c_law_whole, isVal]
  | bl b => simp! [step, m_law_whole, c_law_whole, isVal]
  | int i => by_cases a1 : 0 ≤ i <;> by_cases a2 : i ≤ 999 <;> simp! [step, m_law_whole, c_law_whole, isVal, a1, a2]
  | str h1 h2 => simp! [step, m_law_whole, c_law_whole, isVal]
  | lst ds => simp! [step, m_law_whole, c_law_whole, isVal]
  | dic ds => simp! [step, m_law_whole, c_law_whole, isVal]
  | tup h1 h2 => simp! [step, m_law_whole, c_law_whole, isVal]
theorem value_of_spec {m : Nat} {d : D} (h : Ok m d) (n : Nat) (hn : 2 ≤ n) : fn n 2 [.fz d] = .ok (.v (.bl (isVal d))) [none] := by
  obtain ⟨n, rfl⟩ : ∃ m, n = m + 1 := ⟨n - 1, by omega⟩
  have g := number_spec h n (by omega)
  rw [fn_succ]
  simp! [step, m_is_value, c_is_value, g]
def FIVE : List Str := ["add", "sub", "mul", "less", "same"]
def partsN : D → Option (List D)
  | .tup [.str k, x] => if k = "num" then (if isVal x = true then some [] else none) else if k = "of" then (if nameD x = true then some [] else none) else if k = "not" then some [x] else none
  | .tup [.str k, x, y] => if k ∈ FIVE then some [x, y] else none
  | _ => none
def optT : Option (List D) → D
  | none => .non
  | some ps => .tup ps
def isStrD : D → Bool
  | .str _ => true
  | _ => false
theorem isi_str {m : Nat} {d : D} (h : Ok m d) : isiD [d, .ty "str"] = .d (.bl (isStrD d)) := by
  cases h <;> simp! [isStrD]
theorem cutt2 (a b : D) : cutD [a, b] (some 1) none = [b] := (rfl)
theorem cutt3 (a b c : D) : cutD [a, b, c] (some 1) none = [b, c] := (rfl)
theorem nf1 : ((("num" : Str) ∈ FIVE) = False) := eq_false (by decide +kernel)
theorem nf2 : ((("of" : Str) ∈ FIVE) = False) := eq_false (by decide +kernel)
theorem nf3 : ((("not" : Str) ∈ FIVE) = False) := eq_false (by decide +kernel)
theorem tf1 : ((("add" : Str) ∈ FIVE) = True) := eq_true (by decide +kernel)
theorem tf2 : ((("sub" : Str) ∈ FIVE) = True) := eq_true (by decide +kernel)
theorem tf3 : ((("mul" : Str) ∈ FIVE) = True) := eq_true (by decide +kernel)
theorem tf4 : ((("less" : Str) ∈ FIVE) = True) := eq_true (by decide +kernel)
theorem tf5 : ((("same" : Str) ∈ FIVE) = True) := eq_true (by decide +kernel)
theorem word_cases (k : Str) : k = "num" ∨ k = "of" ∨ k = "not" ∨ k = "add" ∨ k = "sub" ∨ k = "mul" ∨ k = "less" ∨ k = "same" ∨ ((k = "num") = False ∧ (k = "of") = False ∧ (k = "not") = False ∧ (k = "add") = False ∧ (k = "sub") = False ∧ (k = "mul") = False ∧ (k = "less") = False ∧ (k = "same") = False) := by
  by_cases h1 : k = "num"
  · exact .inl h1
  by_cases h2 : k = "of"
  · exact .inr (.inl h2)
  by_cases h3 : k = "not"
  · exact .inr (.inr (.inl h3))
  by_cases h4 : k = "add"
  · exact .inr (.inr (.inr (.inl h4)))
  by_cases h5 : k = "sub"
  · exact .inr (.inr (.inr (.inr (.inl h5))))
  by_cases h6 : k = "mul"
  · exact .inr (.inr (.inr (.inr (.inr (.inl h6)))))
  by_cases h7 : k = "less"
  · exact .inr (.inr (.inr (.inr (.inr (.inr (.inl h7))))))
  by_cases h8 : k = "same"
  · exact .inr (.inr (.inr (.inr (.inr (.inr (.inr (.inl h8)))))))
  exact .inr (.inr (.inr (.inr (.inr (.inr (.inr (.inr ⟨eq_false h1, eq_false h2, eq_false h3, eq_false h4, eq_false h5, eq_false h6, eq_false h7, eq_false h8⟩)))))))
theorem parts_spec {m : Nat} {d : D} (h : Ok m d) (n : Nat) (hn : 4 ≤ n) : fn n 3 [.fz d] = .ok (.v (optT (partsN d))) [none] := by
  obtain ⟨n, rfl⟩ : ∃ m, n = m + 1 := ⟨n - 1, by omega⟩
  rw [fn_succ]
  cases h with
  | non => simp! [step, m_parts_of_sum, c_parts_of_sum, partsN, optT]
  | bl b => simp! [step, m_parts_of_sum, c_parts_of_sum, partsN, optT]
  | int i => simp! [step, m_parts_of_sum, c_parts_of_sum, partsN, optT]
  | str h1 h2 => simp! [step, m_parts_of_sum, c_parts_of_sum, partsN, optT]
  | lst ds => simp! [step, m_parts_of_sum, c_parts_of_sum, partsN, optT]
  | dic ds => simp! [step, m_parts_of_sum, c_parts_of_sum, partsN, optT]
  | @tup ds h1 h2 =>
    match ds, h1, h2 with
    | [], h1, h2 => simp! [step, m_parts_of_sum, c_parts_of_sum, partsN, optT]
    | [a], h1, h2 => simp! [step, m_parts_of_sum, c_parts_of_sum, partsN, optT]
    | a :: b :: r, h1, h2 =>
      have ha := h2 a (by simp)
      have hb := h2 b (by simp)
      have i := isi_str ha
      have v := value_of_spec hb n (by omega)
      have w := is_name_spec hb n (by omega)
      have l2 : (((r.length + 1 + 1 : Nat) : Int) < 2) = False := eq_false (by omega)
      cases hs : isStrD a with
      | false =>
        rw [hs] at i
        have e : partsN (.tup (a :: b :: r)) = none := by
          cases a <;> first | (cases hs; done) | rfl
        rw [e]
        simp! [step, m_parts_of_sum, c_parts_of_sum, optT, i, l2]
      | true =>
        obtain ⟨k, rfl⟩ : ∃ k, a = .str k := by
          cases a <;> first | (cases hs; done) | exact ⟨_, rfl⟩
        match r with
        | [] =>
          rcases word_cases k with rfl | rfl | rfl | rfl | rfl | rfl | rfl | rfl | ⟨k1, k2, k3, k4, k5, k6, k7, k8⟩
          · cases hv : isVal b <;> rw [hv] at v <;> simp! [step, m_parts_of_sum, c_parts_of_sum, optT, v, hv, partsN, dv_in, Bool.false_eq_true]
          · cases hv : nameD b <;> rw [hv] at w <;> simp! [step, m_parts_of_sum, c_parts_of_sum, optT, w, hv, partsN, dv_in, Bool.false_eq_true]
          · simp! [step, m_parts_of_sum, c_parts_of_sum, optT, partsN, dv_in, cutt2]
          · simp! [step, m_parts_of_sum, c_parts_of_sum, optT, partsN, dv_in, cutt2]
          · simp! [step, m_parts_of_sum, c_parts_of_sum, optT, partsN, dv_in, cutt2]
          · simp! [step, m_parts_of_sum, c_parts_of_sum, optT, partsN, dv_in, cutt2]
          · simp! [step, m_parts_of_sum, c_parts_of_sum, optT, partsN, dv_in, cutt2]
          · simp! [step, m_parts_of_sum, c_parts_of_sum, optT, partsN, dv_in, cutt2]
          · simp! [step, m_parts_of_sum, c_parts_of_sum, optT, partsN, dv_in, cutt2, k1, k2, k3, k4, k5, k6, k7, k8]
        | [c] =>
          rcases word_cases k with rfl | rfl | rfl | rfl | rfl | rfl | rfl | rfl | ⟨k1, k2, k3, k4, k5, k6, k7, k8⟩
          · simp! [step, m_parts_of_sum, c_parts_of_sum, optT, partsN, dv_in, cutt3, nf1]
          · simp! [step, m_parts_of_sum, c_parts_of_sum, optT, partsN, dv_in, cutt3, nf2]
          · simp! [step, m_parts_of_sum, c_parts_of_sum, optT, partsN, dv_in, cutt3, nf3]
          · simp! [step, m_parts_of_sum, c_parts_of_sum, optT, partsN, dv_in, cutt3, tf1]
          · simp! [step, m_parts_of_sum, c_parts_of_sum, optT, partsN, dv_in, cutt3, tf2]
          · simp! [step, m_parts_of_sum, c_parts_of_sum, optT, partsN, dv_in, cutt3, tf3]
          · simp! [step, m_parts_of_sum, c_parts_of_sum, optT, partsN, dv_in, cutt3, tf4]
          · simp! [step, m_parts_of_sum, c_parts_of_sum, optT, partsN, dv_in, cutt3, tf5]
          · have nf : (k ∈ FIVE) = False := eq_false (by simp only [FIVE, List.mem_cons, List.not_mem_nil, or_false, k4, k5, k6, k7, k8, not_false_eq_true])
            simp! [step, m_parts_of_sum, c_parts_of_sum, optT, partsN, dv_in, cutt3, k1, k2, k3, k4, k5, k6, k7, k8, nf]
        | c :: d :: r =>
          have l3 : (((r.length + 1 + 1 + 1 + 1 : Nat) : Int) = 2) = False := eq_false (by omega)
          have l4 : (((r.length + 1 + 1 + 1 + 1 : Nat) : Int) = 3) = False := eq_false (by omega)
          have e : partsN (.tup (.str k :: b :: c :: d :: r)) = none := rfl
          simp only [List.length_cons] at l2
          rcases word_cases k with rfl | rfl | rfl | rfl | rfl | rfl | rfl | rfl | ⟨k1, k2, k3, k4, k5, k6, k7, k8⟩
          · simp! [step, m_parts_of_sum, c_parts_of_sum, optT, e, dv_in, l2, l3, l4]
          · simp! [step, m_parts_of_sum, c_parts_of_sum, optT, e, dv_in, l2, l3, l4]
          · simp! [step, m_parts_of_sum, c_parts_of_sum, optT, e, dv_in, l2, l3, l4]
          · simp! [step, m_parts_of_sum, c_parts_of_sum, optT, e, dv_in, l2, l3, l4]
          · simp! [step, m_parts_of_sum, c_parts_of_sum, optT, e, dv_in, l2, l3, l4]
          · simp! [step, m_parts_of_sum, c_parts_of_sum, optT, e, dv_in, l2, l3, l4]
          · simp! [step, m_parts_of_sum, c_parts_of_sum, optT, e, dv_in, l2, l3, l4]
          · simp! [step, m_parts_of_sum, c_parts_of_sum, optT, e, dv_in, l2, l3, l4]
          · simp! [step, m_parts_of_sum, c_parts_of_sum, optT, e, dv_in, l2, l3, l4, k1, k2, k3, k4, k5, k6, k7, k8]
end K01

namespace K01
open PySem PySem.Spec L2 PyProof.Rows PV
local macro_rules | `(tactic| simp! [$ls,*]) => `(tactic| simp only [ob_ok, ob_stuck, ob_exc, ap_ret, ap_fail, ap_bnd, ap_var, var_fz, var_ow, var_io, var_bw, ap_K, ap_op, op_v, op_o, op_s, ap_val, take_v, take_o, take_s, takeS_fz, takeS_ow, view_v, view_o, view_s, viewS_fz, viewS_ow, viewS_io, viewS_bw, val_lst, val_dic, val_dit, sr_d, sr_nt, sr_ob, sr_no, ap_c1, c1k_some, ap_c2, c2k_some, arg_valm, arg_bwm, arg_iom, bwK_v, bwK_s, ioK_v, ioK_s, sq_nil, sq_cons, ap_cN, cNk_some, vs_nil, vs_cons, vsk_some, av_d, av_s, av_io, ar_nil, ar_cons, ark_some, arg_d, arg_s, arg_i, argS_fz, argS_ow, argS_io, argS_bw, argI_fz, argI_ow, argI_io, df_nil, df_d, df_s, df_io, ix_d, ix_s, ix_io, ap_call, callK_some, callD_true, callR_ok, rt_v, rt_o, ue_nil, ue_cons, uek_none, uek_ow, uek_io, of_nil, of_d, of_s, of_none, of_io, ap_B, br_v, ap_T, tru_non, tru_bl, tru_int, tru_tup, tru_lst, tru_scr, tru_dic, ap_not, notB_ok, ap_if, iteB_true, iteB_false, ap_and, ap_or, ap_andV, ap_orV, ap_notV, ap_seq, seqB_nx, seqB_rt, seqB_bk, seqB_ct, ap_nx, ap_bk, ap_ct, ap_sret, ap_sretN, ap_expr, ap_asg, asg_at, asg_vu, asg_vf, asg_vo, asg_ou, asg_of, asg_oo, asg_su, asg_sf, asg_so, asgJ_ow, asgJ_fz, ap_tgN, tgS_un, tgS_fz, tgS_ow, ap_tgNil, ap_tgCons, ap_asgT, ap_cSeq, sq_lst, sq_scr, sq_str, sq_tup, ap_rg1, ap_rg2, ap_for, for_nil, for_cons, forK_nx, forK_ct, forK_bk, forK_rt, tk_nil, tk_cons, ap_tup, ap_lst, ap_dic0, pm_nil, pm_cons, ap_dic, dicK_ok, ap_sl, slK_v, part_none, ap_kind, kd_dic, ap_get2, g2K_some, ap_get1, g1K_some, ap_oa, oa_ow, oa_io, ap_ot, ot_lst, ot_lstI, ot_dic, ot_dicI, ap_wr, wr_ow, wr_io, wrO_some, wrI_some, ap_set, ap_mut, run_F, runK_ok, fin_at, fin_nx, fin_v, fin_o, fin_s, finS_ow, finS_fz, outs_nil, outs_fz, outs_bw, outs_io, en_at, slot_fz, slot_io, slot_bw, dv_add, dv_sub, dv_neg, dv_eqI, dv_eqS, dv_eqB, dv_neI, dv_neS, dv_neB, dv_lt, dv_le, dv_gt, dv_ge, ixk_some, dv_ixT, dv_ixL, dv_ixR, dv_ixDS, dv_ixDI, dv_slT, dv_slL, dv_slR, dv_lenT, dv_lenL, dv_lenR, dv_lenD, dv_intI, dv_intB, dv_abs, dv_min, dv_max, dv_listT, dv_listL, dv_listR, dv_tupT, dv_tupL, dv_tupR, dv_get2S, dv_get2I, dv_dictD, at0, at1, at2, at3, at4, at5, ap_comp, optC_some, optC_none, cl_nil, cl_cons, wb_nil, wb_cons, wbS_un, wbS_fz, wp_nil, wp_cons, bk_nil, bk_cons, bkS_some, condK_true, condK_false, ap_turn, turnW_true, turnK_ok, ap_yes, ap_part, intK_int, nb_none, nb_some, slK_s, slV_some, pin_un, pin_fz, pin_ow, dv_isiII, dv_isiIB, ap_isi2, isi2K_at, isi2T_some, isi2B_some, ap_chain, chK_some, chS_true, chS_false, inS_some, notInS_some, dv_in, dv_notIn, inB_strsT, inB_strsL, inB_dic, inB_T1, inB_T2, inB_T3, dv_all, dv_any, ty_non, ty_bl, ty_int, ty_str, ty_tup, ty_lst, ty_dic, dv_isi, isiT_some, isiK_some, kb_nn, kb_nb, kb_ns, kb_nt, kb_nl, kb_bi, kb_bb, kb_bs, kb_bt, kb_bl, kb_ii, kb_ib, kb_is, kb_it, kb_il, kb_si, kb_sb, kb_ss, kb_st, kb_sl, kb_ti, kb_tb, kb_ts, kb_tt, kb_tl, kb_li, kb_lb, kb_ls, kb_lt, kb_ll, kb_di, kb_db, kb_ds, kb_dt, kb_dl, i2_n, i2_b, i2_i, i2_s, i2_t, i2_l, List.map_cons, List.map_nil, List.cons_append, List.nil_append, List.replicate_succ, List.replicate_zero, List.append_nil, List.length_cons, List.length_nil, List.getElem?_cons_zero, List.getElem?_cons_succ, List.set_cons_zero, List.set_cons_succ, List.all_cons, List.all_nil, Option.map_some, ↓reduceIte, Nat.reduceAdd, Nat.reduceSub, Nat.reduceEqDiff, Bool.and_true, Bool.true_and, Bool.and_false, Bool.false_and, Bool.not_true, Bool.not_false, Bool.or_false, Bool.or_true, Bool.false_or, Bool.true_or, decide_true, decide_false, eq_self, String.reduceEq, Int.reduceEq, Int.reduceLT, Int.reduceLE, run_A, tupK_ok, lstK_ok, compK_ok, ap_tgT_tup, ap_tgT_pr, ap_tgT_lst, sizeLine_eq, Nat.reduceLeDiff, Nat.reduceLT, str_eq, Int.reducePow, Nat.reducePow, Int.reduceToNat, Int.reduceNeg, Int.cast_ofNat_Int, Nat.reduceBNe, Wp_ok, WpM_ok, asg_vw, asg_ow', asg_sw, tgS_w, wbS_w, asg_vx, asg_ox, asg_sx, tgS_x, inB_T4, inB_T5, inB_T6, inB_T7, inB_T8, ap_or, ap_and, ap_andV, ap_orV, ap_not, optL, true_and, and_true, Int.reduceSub, Int.reduceAdd, Int.reduceMul, Int.reduceMod, $ls,*])
local macro_rules | `(tactic| simp!) => `(tactic| simp only [ob_ok, ob_stuck, ob_exc, ap_ret, ap_fail, ap_bnd, ap_var, var_fz, var_ow, var_io, var_bw, ap_K, ap_op, op_v, op_o, op_s, ap_val, take_v, take_o, take_s, takeS_fz, takeS_ow, view_v, view_o, view_s, viewS_fz, viewS_ow, viewS_io, viewS_bw, val_lst, val_dic, val_dit, sr_d, sr_nt, sr_ob, sr_no, ap_c1, c1k_some, ap_c2, c2k_some, arg_valm, arg_bwm, arg_iom, bwK_v, bwK_s, ioK_v, ioK_s, sq_nil, sq_cons, ap_cN, cNk_some, vs_nil, vs_cons, vsk_some, av_d, av_s, av_io, ar_nil, ar_cons, ark_some, arg_d, arg_s, arg_i, argS_fz, argS_ow, argS_io, argS_bw, argI_fz, argI_ow, argI_io, df_nil, df_d, df_s, df_io, ix_d, ix_s, ix_io, ap_call, callK_some, callD_true, callR_ok, rt_v, rt_o, ue_nil, ue_cons, uek_none, uek_ow, uek_io, of_nil, of_d, of_s, of_none, of_io, ap_B, br_v, ap_T, tru_non, tru_bl, tru_int, tru_tup, tru_lst, tru_scr, tru_dic, ap_not, notB_ok, ap_if, iteB_true, iteB_false, ap_and, ap_or, ap_andV, ap_orV, ap_notV, ap_seq, seqB_nx, seqB_rt, seqB_bk, seqB_ct, ap_nx, ap_bk, ap_ct, ap_sret, ap_sretN, ap_expr, ap_asg, asg_at, asg_vu, asg_vf, asg_vo, asg_ou, asg_of, asg_oo, asg_su, asg_sf, asg_so, asgJ_ow, asgJ_fz, ap_tgN, tgS_un, tgS_fz, tgS_ow, ap_tgNil, ap_tgCons, ap_asgT, ap_cSeq, sq_lst, sq_scr, sq_str, sq_tup, ap_rg1, ap_rg2, ap_for, for_nil, for_cons, forK_nx, forK_ct, forK_bk, forK_rt, tk_nil, tk_cons, ap_tup, ap_lst, ap_dic0, pm_nil, pm_cons, ap_dic, dicK_ok, ap_sl, slK_v, part_none, ap_kind, kd_dic, ap_get2, g2K_some, ap_get1, g1K_some, ap_oa, oa_ow, oa_io, ap_ot, ot_lst, ot_lstI, ot_dic, ot_dicI, ap_wr, wr_ow, wr_io, wrO_some, wrI_some, ap_set, ap_mut, run_F, runK_ok, fin_at, fin_nx, fin_v, fin_o, fin_s, finS_ow, finS_fz, outs_nil, outs_fz, outs_bw, outs_io, en_at, slot_fz, slot_io, slot_bw, dv_add, dv_sub, dv_neg, dv_eqI, dv_eqS, dv_eqB, dv_neI, dv_neS, dv_neB, dv_lt, dv_le, dv_gt, dv_ge, ixk_some, dv_ixT, dv_ixL, dv_ixR, dv_ixDS, dv_ixDI, dv_slT, dv_slL, dv_slR, dv_lenT, dv_lenL, dv_lenR, dv_lenD, dv_intI, dv_intB, dv_abs, dv_min, dv_max, dv_listT, dv_listL, dv_listR, dv_tupT, dv_tupL, dv_tupR, dv_get2S, dv_get2I, dv_dictD, at0, at1, at2, at3, at4, at5, ap_comp, optC_some, optC_none, cl_nil, cl_cons, wb_nil, wb_cons, wbS_un, wbS_fz, wp_nil, wp_cons, bk_nil, bk_cons, bkS_some, condK_true, condK_false, ap_turn, turnW_true, turnK_ok, ap_yes, ap_part, intK_int, nb_none, nb_some, slK_s, slV_some, pin_un, pin_fz, pin_ow, dv_isiII, dv_isiIB, ap_isi2, isi2K_at, isi2T_some, isi2B_some, ap_chain, chK_some, chS_true, chS_false, inS_some, notInS_some, dv_in, dv_notIn, inB_strsT, inB_strsL, inB_dic, inB_T1, inB_T2, inB_T3, dv_all, dv_any, ty_non, ty_bl, ty_int, ty_str, ty_tup, ty_lst, ty_dic, dv_isi, isiT_some, isiK_some, kb_nn, kb_nb, kb_ns, kb_nt, kb_nl, kb_bi, kb_bb, kb_bs, kb_bt, kb_bl, kb_ii, kb_ib, kb_is, kb_it, kb_il, kb_si, kb_sb, kb_ss, kb_st, kb_sl, kb_ti, kb_tb, kb_ts, kb_tt, kb_tl, kb_li, kb_lb, kb_ls, kb_lt, kb_ll, kb_di, kb_db, kb_ds, kb_dt, kb_dl, i2_n, i2_b, i2_i, i2_s, i2_t, i2_l, List.map_cons, List.map_nil, List.cons_append, List.nil_append, List.replicate_succ, List.replicate_zero, List.append_nil, List.length_cons, List.length_nil, List.getElem?_cons_zero, List.getElem?_cons_succ, List.set_cons_zero, List.set_cons_succ, List.all_cons, List.all_nil, Option.map_some, ↓reduceIte, Nat.reduceAdd, Nat.reduceSub, Nat.reduceEqDiff, Bool.and_true, Bool.true_and, Bool.and_false, Bool.false_and, Bool.not_true, Bool.not_false, Bool.or_false, Bool.or_true, Bool.false_or, Bool.true_or, decide_true, decide_false, eq_self, String.reduceEq, Int.reduceEq, Int.reduceLT, Int.reduceLE, run_A, tupK_ok, lstK_ok, compK_ok, ap_tgT_tup, ap_tgT_pr, ap_tgT_lst, sizeLine_eq, Nat.reduceLeDiff, Nat.reduceLT, str_eq, Int.reducePow, Nat.reducePow, Int.reduceToNat, Int.reduceNeg, Int.cast_ofNat_Int, Nat.reduceBNe, Wp_ok, WpM_ok, asg_vw, asg_ow', asg_sw, tgS_w, wbS_w, asg_vx, asg_ox, asg_sx, tgS_x, inB_T4, inB_T5, inB_T6, inB_T7, inB_T8, ap_or, ap_and, ap_andV, ap_orV, ap_not, optL, true_and, and_true, Int.reduceSub, Int.reduceAdd, Int.reduceMul, Int.reduceMod])
def lawN : Nat → D → Nat
  | 0, _ => 99
  | f + 1, d => match partsN d with
    | none => 99
    | some ps => 1 + (ps.map (lawN f)).sum
theorem partsN_ok {m : Nat} {d : D} (h : Ok m d) {ps : List D} (e : partsN d = some ps) : (∀ x ∈ ps, Ok m x) ∧ ps.length ≤ 2 := by
  unfold partsN at e
  split at e
  · rename_i k x
    cases h with
    | tup h1 h2 =>
      have hx := h2 x (by simp)
      split at e
      · split at e <;> cases e
        exact ⟨by simp, by simp⟩
      · split at e
        · split at e <;> cases e
          exact ⟨by simp, by simp⟩
        · split at e <;> cases e
          exact ⟨fun y hy => by simp only [List.mem_singleton] at hy; subst hy; exact hx, by simp⟩
  · rename_i k x y
    cases h with
    | tup h1 h2 =>
      have hx := h2 x (by simp)
      have hy := h2 y (by simp)
      split at e <;> cases e
      refine ⟨fun z hz => ?_, by simp⟩
      simp only [List.mem_cons, List.not_mem_nil, or_false] at hz
      rcases hz with rfl | rfl
      · exact hx
      · exact hy
  · cases e
theorem lawN_pos : ∀ (f : Nat) (d : D), 1 ≤ lawN f d
  | 0, _ => by show 1 ≤ 99; decide
  | f + 1, d => by
    unfold lawN
    split <;> omega
def pairD (w : D × Nat) : D := .tup [w.1, .int (w.2 : Int)]
def sumW (ws : List (D × Nat)) : Nat := (ws.map fun w => lawN (6 - w.2) w.1).sum
theorem sumW_app (a b : List (D × Nat)) : sumW (a ++ b) = sumW a + sumW b := by unfold sumW; rw [List.map_append, List.sum_append]
theorem pop_last (ds : List D) (d : D) : popF [] (.lst (ds ++ [d])) = some (d, .lst ds) := by
  unfold popF
  simp
theorem is_sum_spec {m : Nat} {d : D} (h : Ok m d) (n : Nat) (hn : 5 ≤ n) : Wp (fn n 4 [.fz d]) fun v o => v = .v (.bl (decide (lawN 5 d ≤ 12))) ∧ o = [none] := by
  obtain ⟨n, rfl⟩ : ∃ m, n = m + 1 := ⟨n - 1, by omega⟩
  rw [fn_succ]
  simp! [step, m_is_sum, c_is_sum]
  generalize hX : whileM _ _ _ _ = X
  obtain ⟨e', hw⟩ := wh_inv hX (fun j e => ∃ (ws : List (D × Nat)) (many : Nat) (t3 t4 t5 : Scr), j + many = 13 ∧ many ≤ 12 ∧ (∀ w ∈ ws, Ok m w.1 ∧ 1 ≤ w.2 ∧ w.2 ≤ 6) ∧ ws.length ≤ many + 1 ∧ many + sumW ws = lawN 5 d ∧
      e = [.fz d, .ow (.lst (ws.map pairD)), .fz (.int (many : Int)), t3.1, t4.1, t5.1, .un])
    (fun e => lawN 5 d ≤ 12 ∧ ∃ (s1 s2 : PV.Slot) (t3 t4 t5 : Scr), e = [.fz d, s1, s2, t3.1, t4.1, t5.1, .un])
    (fun r e => ¬ lawN 5 d ≤ 12 ∧ r = .v (.bl false) ∧ ∃ (s1 s2 : PV.Slot) (t3 t4 t5 : Scr), e = [.fz d, s1, s2, t3.1, t4.1, t5.1, .un]) 13
    ⟨[(d, 1)], 0, ⟨.un, rfl⟩, ⟨.un, rfl⟩, ⟨.un, rfl⟩, rfl, by omega, by
      intro w hw
      simp only [List.mem_singleton] at hw
      subst hw
      exact ⟨h, by omega, by omega⟩, by simp, by simp [sumW], rfl⟩ (by omega) (by
      rintro j e ⟨ws, many, t3, t4, t5, hj, hm, hws, hwl, hT, rfl⟩
      have lw : (ws.map pairD).length < 16777216 := by rw [List.length_map]; omega
      rcases List.eq_nil_or_concat ws with rfl | ⟨ws', w, hcc⟩
      · simp! [Int.natCast_zero, Int.lt_irrefl]
        refine .inl ⟨?_, ⟨_, _, t3, t4, t5, rfl⟩⟩
        have : sumW [] = 0 := rfl
        omega
      · rw [List.concat_eq_append] at hcc
        subst hcc
        obtain ⟨w1, w2, w3⟩ := hws w (by simp)
        have mp : (ws' ++ [w]).map pairD = ws'.map pairD ++ [.tup [w.1, .int (w.2 : Int)]] := by rw [List.map_append]; rfl
        have lp : (0 < (((ws'.map pairD ++ [D.tup [w.1, .int (w.2 : Int)]]).length : Nat) : Int)) = True := eq_true (by rw [List.length_append]; simp only [List.length_cons, List.length_nil]; omega)
        have P := parts_spec w1 n (by omega)
        have pl := pop_last (ws'.map pairD) (.tup [w.1, .int (w.2 : Int)])
        have hS : sumW (ws' ++ [w]) = sumW ws' + lawN (6 - w.2) w.1 := by rw [sumW_app]; simp [sumW]
        have lpos := lawN_pos (6 - w.2) w.1
        rw [mp]
        simp! [lp]
        refine .inr ⟨j - 1, by omega, ?_⟩
        cases hp : partsN w.1 with
        | none =>
          rw [hp] at P
          have nn : isD .non .non = .d (.bl true) := rfl
          simp! [pl, P, optT, nn]
          refine .inr ⟨_, rfl, ?_, rfl, _, _, ⟨_, rfl⟩, ⟨_, rfl⟩, ⟨_, rfl⟩, rfl⟩
          have : lawN (6 - w.2) w.1 = 99 := by
            cases 6 - w.2 with
            | zero => rfl
            | succ f => unfold lawN; rw [hp]
          omega
        | some ps =>
          obtain ⟨p1, p2⟩ := partsN_ok w1 hp
          rw [hp] at P
          have it : isD (.tup ps) .non = .d (.bl false) := rfl
          simp only [List.length_append, List.length_cons, List.length_nil] at hwl
          by_cases c1 : 12 < (many : Int) + 1
          · simp! [pl, P, optT, it, c1]
            refine .inr ⟨_, rfl, by omega, rfl, _, _, ⟨_, rfl⟩, ⟨_, rfl⟩, ⟨_, rfl⟩, rfl⟩
          · by_cases c2 : 5 < (w.2 : Int)
            · simp! [pl, P, optT, it, c1, c2]
              refine .inr ⟨_, rfl, ?_, rfl, _, _, ⟨_, rfl⟩, ⟨_, rfl⟩, ⟨_, rfl⟩, rfl⟩
              have : lawN (6 - w.2) w.1 = 99 := by
                have : 6 - w.2 = 0 := by omega
                rw [this]; rfl
              omega
            · simp! [pl, P, optT, it, c1, c2]
              generalize hY : compL _ _ _ _ _ _ = Y
              have e := comp_fm' hY (fun x => some (.tup [x, .int ((w.2 : Int) + 1)])) (by
                intro x hx
                simp!)
              rw [List.filterMap_eq_map'] at e
              subst e
              have l1 : (ps.map fun x => D.tup [x, .int ((w.2 : Int) + 1)]).length ≤ 16777216 := by rw [List.length_map]; omega
              have ex := dv_ext (ds := ws'.map pairD) (es := ps.map fun x => D.tup [x, .int ((w.2 : Int) + 1)]) (by rw [sizeLine_eq, List.length_map, List.length_map]; omega)
              have e1 : (ws'.map pairD ++ ps.map fun x => D.tup [x, .int ((w.2 : Int) + 1)]) = (ws' ++ ps.map fun x => (x, w.2 + 1)).map pairD := by
                rw [List.map_append, List.map_map]; congr 1
              simp! [l1, ex]
              rw [e1]
              refine .inl ⟨_, many + 1, ⟨_, rfl⟩, ⟨_, rfl⟩, ⟨_, rfl⟩, by omega, by omega, ?_, ?_, ?_, rfl⟩
              · intro z hz
                rcases List.mem_append.mp hz with hz | hz
                · exact hws z (List.mem_append_left _ hz)
                · obtain ⟨x, hx, rfl⟩ := List.mem_map.mp hz
                  exact ⟨p1 x hx, by show 1 ≤ w.2 + 1; omega, by show w.2 + 1 ≤ 6; omega⟩
              · rw [List.length_append, List.length_map]; omega
              · rw [sumW_app]
                have e2 : sumW (ps.map fun x => (x, w.2 + 1)) = (ps.map (lawN (6 - (w.2 + 1)))).sum := by unfold sumW; rw [List.map_map]; rfl
                have e3 : lawN (6 - w.2) w.1 = 1 + (ps.map (lawN (6 - (w.2 + 1)))).sum := by
                  have : 6 - w.2 = (6 - (w.2 + 1)) + 1 := by omega
                  rw [this]
                  show (match partsN w.1 with | none => 99 | some ps => 1 + (ps.map (lawN (6 - (w.2 + 1)))).sum) = _
                  rw [hp]
                rw [e2]
                omega)
  rcases hw with ⟨rfl, hT, s1, s2, t3, t4, t5, rfl⟩ | ⟨r, rfl, hT, rfl, s1, s2, t3, t4, t5, rfl⟩
  · simp! [hT]
  · simp! [hT]
end K01

namespace K01
open PySem PySem.Spec L2 PyProof.Rows PV
local macro_rules | `(tactic| simp! [$ls,*]) => `(tactic| simp only [ob_ok, ob_stuck, ob_exc, ap_ret, ap_fail, ap_bnd, ap_var, var_fz, var_ow, var_io, var_bw, ap_K, ap_op, op_v, op_o, op_s, ap_val, take_v, take_o, take_s, takeS_fz, takeS_ow, view_v, view_o, view_s, viewS_fz, viewS_ow, viewS_io, viewS_bw, val_lst, val_dic, val_dit, sr_d, sr_nt, sr_ob, sr_no, ap_c1, c1k_some, ap_c2, c2k_some, arg_valm, arg_bwm, arg_iom, bwK_v, bwK_s, ioK_v, ioK_s, sq_nil, sq_cons, ap_cN, cNk_some, vs_nil, vs_cons, vsk_some, av_d, av_s, av_io, ar_nil, ar_cons, ark_some, arg_d, arg_s, arg_i, argS_fz, argS_ow, argS_io, argS_bw, argI_fz, argI_ow, argI_io, df_nil, df_d, df_s, df_io, ix_d, ix_s, ix_io, ap_call, callK_some, callD_true, callR_ok, rt_v, rt_o, ue_nil, ue_cons, uek_none, uek_ow, uek_io, of_nil, of_d, of_s, of_none, of_io, ap_B, br_v, ap_T, tru_non, tru_bl, tru_int, tru_tup, tru_lst, tru_scr, tru_dic, ap_not, notB_ok, ap_if, iteB_true, iteB_false, ap_and, ap_or, ap_andV, ap_orV, ap_notV, ap_seq, seqB_nx, seqB_rt, seqB_bk, seqB_ct, ap_nx, ap_bk, ap_ct, ap_sret, ap_sretN, ap_expr, ap_asg, asg_at, asg_vu, asg_vf, asg_vo, asg_ou, asg_of, asg_oo, asg_su, asg_sf, asg_so, asgJ_ow, asgJ_fz, ap_tgN, tgS_un, tgS_fz, tgS_ow, ap_tgNil, ap_tgCons, ap_asgT, ap_cSeq, sq_lst, sq_scr, sq_str, sq_tup, ap_rg1, ap_rg2, ap_for, for_nil, for_cons, forK_nx, forK_ct, forK_bk, forK_rt, tk_nil, tk_cons, ap_tup, ap_lst, ap_dic0, pm_nil, pm_cons, ap_dic, dicK_ok, ap_sl, slK_v, part_none, ap_kind, kd_dic, ap_get2, g2K_some, ap_get1, g1K_some, ap_oa, oa_ow, oa_io, ap_ot, ot_lst, ot_lstI, ot_dic, ot_dicI, ap_wr, wr_ow, wr_io, wrO_some, wrI_some, ap_set, ap_mut, run_F, runK_ok, fin_at, fin_nx, fin_v, fin_o, fin_s, finS_ow, finS_fz, outs_nil, outs_fz, outs_bw, outs_io, en_at, slot_fz, slot_io, slot_bw, dv_add, dv_sub, dv_neg, dv_eqI, dv_eqS, dv_eqB, dv_neI, dv_neS, dv_neB, dv_lt, dv_le, dv_gt, dv_ge, ixk_some, dv_ixT, dv_ixL, dv_ixR, dv_ixDS, dv_ixDI, dv_slT, dv_slL, dv_slR, dv_lenT, dv_lenL, dv_lenR, dv_lenD, dv_intI, dv_intB, dv_abs, dv_min, dv_max, dv_listT, dv_listL, dv_listR, dv_tupT, dv_tupL, dv_tupR, dv_get2S, dv_get2I, dv_dictD, at0, at1, at2, at3, at4, at5, ap_comp, optC_some, optC_none, cl_nil, cl_cons, wb_nil, wb_cons, wbS_un, wbS_fz, wp_nil, wp_cons, bk_nil, bk_cons, bkS_some, condK_true, condK_false, ap_turn, turnW_true, turnK_ok, ap_yes, ap_part, intK_int, nb_none, nb_some, slK_s, slV_some, pin_un, pin_fz, pin_ow, dv_isiII, dv_isiIB, ap_isi2, isi2K_at, isi2T_some, isi2B_some, ap_chain, chK_some, chS_true, chS_false, inS_some, notInS_some, dv_in, dv_notIn, inB_strsT, inB_strsL, inB_dic, inB_T1, inB_T2, inB_T3, dv_all, dv_any, ty_non, ty_bl, ty_int, ty_str, ty_tup, ty_lst, ty_dic, dv_isi, isiT_some, isiK_some, kb_nn, kb_nb, kb_ns, kb_nt, kb_nl, kb_bi, kb_bb, kb_bs, kb_bt, kb_bl, kb_ii, kb_ib, kb_is, kb_it, kb_il, kb_si, kb_sb, kb_ss, kb_st, kb_sl, kb_ti, kb_tb, kb_ts, kb_tt, kb_tl, kb_li, kb_lb, kb_ls, kb_lt, kb_ll, kb_di, kb_db, kb_ds, kb_dt, kb_dl, i2_n, i2_b, i2_i, i2_s, i2_t, i2_l, List.map_cons, List.map_nil, List.cons_append, List.nil_append, List.replicate_succ, List.replicate_zero, List.append_nil, List.length_cons, List.length_nil, List.getElem?_cons_zero, List.getElem?_cons_succ, List.set_cons_zero, List.set_cons_succ, List.all_cons, List.all_nil, Option.map_some, ↓reduceIte, Nat.reduceAdd, Nat.reduceSub, Nat.reduceEqDiff, Bool.and_true, Bool.true_and, Bool.and_false, Bool.false_and, Bool.not_true, Bool.not_false, Bool.or_false, Bool.or_true, Bool.false_or, Bool.true_or, decide_true, decide_false, eq_self, String.reduceEq, Int.reduceEq, Int.reduceLT, Int.reduceLE, run_A, tupK_ok, lstK_ok, compK_ok, ap_tgT_tup, ap_tgT_pr, ap_tgT_lst, sizeLine_eq, Nat.reduceLeDiff, Nat.reduceLT, str_eq, Int.reducePow, Nat.reducePow, Int.reduceToNat, Int.reduceNeg, Int.cast_ofNat_Int, Nat.reduceBNe, Wp_ok, WpM_ok, asg_vw, asg_ow', asg_sw, tgS_w, wbS_w, asg_vx, asg_ox, asg_sx, tgS_x, inB_T4, inB_T5, inB_T6, inB_T7, inB_T8, ap_or, ap_and, ap_andV, ap_orV, ap_not, optL, true_and, and_true, Int.reduceSub, Int.reduceAdd, Int.reduceMul, Int.reduceMod, $ls,*])
local macro_rules | `(tactic| simp!) => `(tactic| simp only [ob_ok, ob_stuck, ob_exc, ap_ret, ap_fail, ap_bnd, ap_var, var_fz, var_ow, var_io, var_bw, ap_K, ap_op, op_v, op_o, op_s, ap_val, take_v, take_o, take_s, takeS_fz, takeS_ow, view_v, view_o, view_s, viewS_fz, viewS_ow, viewS_io, viewS_bw, val_lst, val_dic, val_dit, sr_d, sr_nt, sr_ob, sr_no, ap_c1, c1k_some, ap_c2, c2k_some, arg_valm, arg_bwm, arg_iom, bwK_v, bwK_s, ioK_v, ioK_s, sq_nil, sq_cons, ap_cN, cNk_some, vs_nil, vs_cons, vsk_some, av_d, av_s, av_io, ar_nil, ar_cons, ark_some, arg_d, arg_s, arg_i, argS_fz, argS_ow, argS_io, argS_bw, argI_fz, argI_ow, argI_io, df_nil, df_d, df_s, df_io, ix_d, ix_s, ix_io, ap_call, callK_some, callD_true, callR_ok, rt_v, rt_o, ue_nil, ue_cons, uek_none, uek_ow, uek_io, of_nil, of_d, of_s, of_none, of_io, ap_B, br_v, ap_T, tru_non, tru_bl, tru_int, tru_tup, tru_lst, tru_scr, tru_dic, ap_not, notB_ok, ap_if, iteB_true, iteB_false, ap_and, ap_or, ap_andV, ap_orV, ap_notV, ap_seq, seqB_nx, seqB_rt, seqB_bk, seqB_ct, ap_nx, ap_bk, ap_ct, ap_sret, ap_sretN, ap_expr, ap_asg, asg_at, asg_vu, asg_vf, asg_vo, asg_ou, asg_of, asg_oo, asg_su, asg_sf, asg_so, asgJ_ow, asgJ_fz, ap_tgN, tgS_un, tgS_fz, tgS_ow, ap_tgNil, ap_tgCons, ap_asgT, ap_cSeq, sq_lst, sq_scr, sq_str, sq_tup, ap_rg1, ap_rg2, ap_for, for_nil, for_cons, forK_nx, forK_ct, forK_bk, forK_rt, tk_nil, tk_cons, ap_tup, ap_lst, ap_dic0, pm_nil, pm_cons, ap_dic, dicK_ok, ap_sl, slK_v, part_none, ap_kind, kd_dic, ap_get2, g2K_some, ap_get1, g1K_some, ap_oa, oa_ow, oa_io, ap_ot, ot_lst, ot_lstI, ot_dic, ot_dicI, ap_wr, wr_ow, wr_io, wrO_some, wrI_some, ap_set, ap_mut, run_F, runK_ok, fin_at, fin_nx, fin_v, fin_o, fin_s, finS_ow, finS_fz, outs_nil, outs_fz, outs_bw, outs_io, en_at, slot_fz, slot_io, slot_bw, dv_add, dv_sub, dv_neg, dv_eqI, dv_eqS, dv_eqB, dv_neI, dv_neS, dv_neB, dv_lt, dv_le, dv_gt, dv_ge, ixk_some, dv_ixT, dv_ixL, dv_ixR, dv_ixDS, dv_ixDI, dv_slT, dv_slL, dv_slR, dv_lenT, dv_lenL, dv_lenR, dv_lenD, dv_intI, dv_intB, dv_abs, dv_min, dv_max, dv_listT, dv_listL, dv_listR, dv_tupT, dv_tupL, dv_tupR, dv_get2S, dv_get2I, dv_dictD, at0, at1, at2, at3, at4, at5, ap_comp, optC_some, optC_none, cl_nil, cl_cons, wb_nil, wb_cons, wbS_un, wbS_fz, wp_nil, wp_cons, bk_nil, bk_cons, bkS_some, condK_true, condK_false, ap_turn, turnW_true, turnK_ok, ap_yes, ap_part, intK_int, nb_none, nb_some, slK_s, slV_some, pin_un, pin_fz, pin_ow, dv_isiII, dv_isiIB, ap_isi2, isi2K_at, isi2T_some, isi2B_some, ap_chain, chK_some, chS_true, chS_false, inS_some, notInS_some, dv_in, dv_notIn, inB_strsT, inB_strsL, inB_dic, inB_T1, inB_T2, inB_T3, dv_all, dv_any, ty_non, ty_bl, ty_int, ty_str, ty_tup, ty_lst, ty_dic, dv_isi, isiT_some, isiK_some, kb_nn, kb_nb, kb_ns, kb_nt, kb_nl, kb_bi, kb_bb, kb_bs, kb_bt, kb_bl, kb_ii, kb_ib, kb_is, kb_it, kb_il, kb_si, kb_sb, kb_ss, kb_st, kb_sl, kb_ti, kb_tb, kb_ts, kb_tt, kb_tl, kb_li, kb_lb, kb_ls, kb_lt, kb_ll, kb_di, kb_db, kb_ds, kb_dt, kb_dl, i2_n, i2_b, i2_i, i2_s, i2_t, i2_l, List.map_cons, List.map_nil, List.cons_append, List.nil_append, List.replicate_succ, List.replicate_zero, List.append_nil, List.length_cons, List.length_nil, List.getElem?_cons_zero, List.getElem?_cons_succ, List.set_cons_zero, List.set_cons_succ, List.all_cons, List.all_nil, Option.map_some, ↓reduceIte, Nat.reduceAdd, Nat.reduceSub, Nat.reduceEqDiff, Bool.and_true, Bool.true_and, Bool.and_false, Bool.false_and, Bool.not_true, Bool.not_false, Bool.or_false, Bool.or_true, Bool.false_or, Bool.true_or, decide_true, decide_false, eq_self, String.reduceEq, Int.reduceEq, Int.reduceLT, Int.reduceLE, run_A, tupK_ok, lstK_ok, compK_ok, ap_tgT_tup, ap_tgT_pr, ap_tgT_lst, sizeLine_eq, Nat.reduceLeDiff, Nat.reduceLT, str_eq, Int.reducePow, Nat.reducePow, Int.reduceToNat, Int.reduceNeg, Int.cast_ofNat_Int, Nat.reduceBNe, Wp_ok, WpM_ok, asg_vw, asg_ow', asg_sw, tgS_w, wbS_w, asg_vx, asg_ox, asg_sx, tgS_x, inB_T4, inB_T5, inB_T6, inB_T7, inB_T8, ap_or, ap_and, ap_andV, ap_orV, ap_not, optL, true_and, and_true, Int.reduceSub, Int.reduceAdd, Int.reduceMul, Int.reduceMod])
def szL : List (Key × D) := [(.inr "add", .int 3), (.inr "sub", .int 3), (.inr "mul", .int 3), (.inr "less", .int 3), (.inr "same", .int 3), (.inr "not", .int 2)]
theorem sz_keys : keysD [(.str "add", .int 3), (.str "sub", .int 3), (.str "mul", .int 3), (.str "less", .int 3), (.str "same", .int 3), (.str "not", .int 2)] = some szL := (rfl)
theorem sz_merge : mergeD [] szL = szL := by simp [mergeD, putD, szL, str_eq]
theorem sz_at {k : Str} : valD szL (.inr k) = if k ∈ FIVE then some (.int 3) else if k = "not" then some (.int 2) else none := by
  rcases word_cases k with rfl | rfl | rfl | rfl | rfl | rfl | rfl | rfl | ⟨k1, k2, k3, k4, k5, k6, k7, k8⟩
  · rfl
  · rfl
  · rfl
  · rfl
  · rfl
  · rfl
  · rfl
  · rfl
  · have nf : (k ∈ FIVE) = False := eq_false (by simp only [FIVE, List.mem_cons, List.not_mem_nil, or_false, k4, k5, k6, k7, k8, not_false_eq_true])
    have h : ∀ x y : Str, (x = y) = (y = x) := fun x y => propext ⟨Eq.symm, Eq.symm⟩
    rw [if_neg (by rw [nf]; exact id), if_neg (by rw [k3]; exact id)]
    simp only [valD, szL, List.find?_cons, Sum.inr.injEq, h _ k, k3, k4, k5, k6, k7, k8, decide_false, List.find?_nil, Option.map_none]
theorem sum1 (a : Int) : sumD [.lst [.int a]] = .d (.int a) := by simp [sumD, intsD]
theorem sum2 (a b : Int) : sumD [.lst [.int a, .int b]] = .d (.int (a + b)) := by simp [sumD, intsD]
theorem sz1 : valD szL (.inr "num") = none := (rfl)
theorem sz2 : valD szL (.inr "of") = none := (rfl)
theorem sz3 : valD szL (.inr "not") = some (.int 2) := (rfl)
theorem sz4 : valD szL (.inr "add") = some (.int 3) := (rfl)
theorem sz5 : valD szL (.inr "sub") = some (.int 3) := (rfl)
theorem sz6 : valD szL (.inr "mul") = some (.int 3) := (rfl)
theorem sz7 : valD szL (.inr "less") = some (.int 3) := (rfl)
theorem sz8 : valD szL (.inr "same") = some (.int 3) := (rfl)
theorem lawN_bad {f : Nat} {d : D} (h : partsN d = none) : lawN (f + 1) d = 99 := by unfold lawN; rw [h]
theorem lawN_some {f : Nat} {d : D} {ps : List D} (h : partsN d = some ps) : lawN (f + 1) d = 1 + (ps.map (lawN f)).sum := by
  show (match partsN d with | none => 99 | some ps => 1 + (ps.map (lawN f)).sum) = _
  rw [h]
theorem isT_non {d : D} (h : isStrD d = false) (z : Str) : isT z d = false := by cases d <;> first | (cases h; done) | rfl
theorem sums_spec : ∀ (f : Nat) {m : Nat} {d : D} (_ : Ok m d) (dp : Int), dp + f = 6 → ∀ n, f + 3 ≤ n → fn n 14 [.fz d, .fz (.int dp)] = .ok (.v (.int (lawN f d : Int))) [none, none] := by
  intro f
  induction f with
  | zero =>
    intro m d h dp hk n hn
    obtain ⟨n, rfl⟩ : ∃ m, n = m + 1 := ⟨n - 1, by omega⟩
    have hk6 : dp = 6 := by omega
    subst hk6
    rw [fn_succ]
    cases h with
    | non => simp! [step, m_law_sums_in, c_law_sums_in, lawN]
    | bl b => simp! [step, m_law_sums_in, c_law_sums_in, lawN]
    | int i => simp! [step, m_law_sums_in, c_law_sums_in, lawN]
    | str h1 h2 => simp! [step, m_law_sums_in, c_law_sums_in, lawN]
    | lst ds => simp! [step, m_law_sums_in, c_law_sums_in, lawN]
    | dic ds => simp! [step, m_law_sums_in, c_law_sums_in, lawN]
    | @tup ds h1 h2 =>
      by_cases q : (ds.length : Int) = 0
      · simp! [step, m_law_sums_in, c_law_sums_in, lawN, q]
      · simp! [step, m_law_sums_in, c_law_sums_in, lawN, q]
  | succ f ih =>
    intro m d h dp hk n hn
    obtain ⟨n, rfl⟩ : ∃ m, n = m + 1 := ⟨n - 1, by omega⟩
    have k5 : (5 < dp) = False := eq_false (by omega)
    rw [fn_succ]
    cases h with
    | non => simp! [step, m_law_sums_in, c_law_sums_in, lawN, partsN]
    | bl b => simp! [step, m_law_sums_in, c_law_sums_in, lawN, partsN]
    | int i => simp! [step, m_law_sums_in, c_law_sums_in, lawN, partsN]
    | str h1 h2 => simp! [step, m_law_sums_in, c_law_sums_in, lawN, partsN]
    | lst ds => simp! [step, m_law_sums_in, c_law_sums_in, lawN, partsN]
    | dic ds => simp! [step, m_law_sums_in, c_law_sums_in, lawN, partsN]
    | @tup ds h1 h2 =>
      match ds, h1, h2 with
      | [], h1, h2 => simp! [step, m_law_sums_in, c_law_sums_in, lawN, partsN]
      | [a], h1, h2 =>
        have ha := h2 a (by simp)
        have i := isi_str ha
        have q1 := eq_text ha.any "num"
        have q2 := eq_text ha.any "of"
        have e : lawN (f + 1) (.tup [a]) = 99 := lawN_bad (by cases a <;> rfl)
        rw [e]
        cases hs : isStrD a with
        | false =>
          rw [hs] at i
          rw [isT_non hs] at q1 q2
          simp! [step, m_law_sums_in, c_law_sums_in, k5, sz_keys, sz_merge, Bool.false_eq_true, dv_neI, dv_eqI, Option.getD_none, Option.getD_some, i, q1, q2]
        | true =>
          obtain ⟨k, rfl⟩ : ∃ k, a = .str k := by
            cases a <;> first | (cases hs; done) | exact ⟨_, rfl⟩
          rcases word_cases k with rfl | rfl | rfl | rfl | rfl | rfl | rfl | rfl | ⟨k1, k2, k3, k4, k5', k6, k7, k8⟩
          · simp! [step, m_law_sums_in, c_law_sums_in, k5, sz_keys, sz_merge, Bool.false_eq_true, dv_neI, dv_eqI, Option.getD_none, Option.getD_some, sz1]
          · simp! [step, m_law_sums_in, c_law_sums_in, k5, sz_keys, sz_merge, Bool.false_eq_true, dv_neI, dv_eqI, Option.getD_none, Option.getD_some, sz2]
          · simp! [step, m_law_sums_in, c_law_sums_in, k5, sz_keys, sz_merge, Bool.false_eq_true, dv_neI, dv_eqI, Option.getD_none, Option.getD_some, sz3]
          · simp! [step, m_law_sums_in, c_law_sums_in, k5, sz_keys, sz_merge, Bool.false_eq_true, dv_neI, dv_eqI, Option.getD_none, Option.getD_some, sz4]
          · simp! [step, m_law_sums_in, c_law_sums_in, k5, sz_keys, sz_merge, Bool.false_eq_true, dv_neI, dv_eqI, Option.getD_none, Option.getD_some, sz5]
          · simp! [step, m_law_sums_in, c_law_sums_in, k5, sz_keys, sz_merge, Bool.false_eq_true, dv_neI, dv_eqI, Option.getD_none, Option.getD_some, sz6]
          · simp! [step, m_law_sums_in, c_law_sums_in, k5, sz_keys, sz_merge, Bool.false_eq_true, dv_neI, dv_eqI, Option.getD_none, Option.getD_some, sz7]
          · simp! [step, m_law_sums_in, c_law_sums_in, k5, sz_keys, sz_merge, Bool.false_eq_true, dv_neI, dv_eqI, Option.getD_none, Option.getD_some, sz8]
          · have va : valD szL (.inr k) = none := by rw [sz_at, if_neg (by simp only [FIVE, List.mem_cons, List.not_mem_nil, or_false, k4, k5', k6, k7, k8, not_false_eq_true]), if_neg (by rw [k3]; exact id)]
            simp! [step, m_law_sums_in, c_law_sums_in, k5, sz_keys, sz_merge, Bool.false_eq_true, dv_neI, dv_eqI, Option.getD_none, Option.getD_some, va, k1, k2, k3, k4, k5', k6, k7, k8]
      | a :: b :: r, h1, h2 =>
        have ha := h2 a (by simp)
        have hb := h2 b (by simp)
        have i := isi_str ha
        have q1 := eq_text ha.any "num"
        have q2 := eq_text ha.any "of"
        have v := law_whole_spec hb n (by omega)
        have w := law_name_spec hb n (by omega)
        have gb := ih hb (dp + 1) (by omega) n (by omega)
        have l0 : (((r.length + 1 + 1 : Nat) : Int) = 0) = False := eq_false (by omega)
        cases hs : isStrD a with
        | false =>
          rw [hs] at i
          rw [isT_non hs] at q1 q2
          have e : lawN (f + 1) (.tup (a :: b :: r)) = 99 := lawN_bad (by cases a <;> first | (cases hs; done) | rfl)
          rw [e]
          simp! [step, m_law_sums_in, c_law_sums_in, k5, sz_keys, sz_merge, Bool.false_eq_true, dv_neI, dv_eqI, Option.getD_none, Option.getD_some, i, q1, q2, l0]
        | true =>
          obtain ⟨k, rfl⟩ : ∃ k, a = .str k := by
            cases a <;> first | (cases hs; done) | exact ⟨_, rfl⟩
          match r with
          | [] =>
            rcases word_cases k with rfl | rfl | rfl | rfl | rfl | rfl | rfl | rfl | ⟨k1, k2, k3, k4, k5', k6, k7, k8⟩
            · cases hv : isVal b <;> rw [hv] at v
              · rw [lawN_bad (by simp only [partsN, hv, Bool.false_eq_true, if_false, if_true])]
                simp! [step, m_law_sums_in, c_law_sums_in, k5, sz_keys, sz_merge, Bool.false_eq_true, dv_neI, dv_eqI, Option.getD_none, Option.getD_some, sz1, v]
              · rw [lawN_some (ps := []) (by simp only [partsN, hv, if_true])]
                simp! [step, m_law_sums_in, c_law_sums_in, k5, sz_keys, sz_merge, Bool.false_eq_true, dv_neI, dv_eqI, Option.getD_none, Option.getD_some, sz1, v, List.sum_nil, Nat.add_zero]
            · cases hv : nameD b <;> rw [hv] at w
              · rw [lawN_bad (by simp only [partsN, hv, Bool.false_eq_true, if_false, if_true, str_eq, String.reduceEq])]
                simp! [step, m_law_sums_in, c_law_sums_in, k5, sz_keys, sz_merge, Bool.false_eq_true, dv_neI, dv_eqI, Option.getD_none, Option.getD_some, sz2, w]
              · rw [lawN_some (ps := []) (by simp only [partsN, hv, if_true, if_false, str_eq, String.reduceEq])]
                simp! [step, m_law_sums_in, c_law_sums_in, k5, sz_keys, sz_merge, Bool.false_eq_true, dv_neI, dv_eqI, Option.getD_none, Option.getD_some, sz2, w, List.sum_nil, Nat.add_zero]
            · rw [lawN_some (ps := [b]) (by simp only [partsN, if_true, if_false, str_eq, String.reduceEq])]
              simp! [step, m_law_sums_in, c_law_sums_in, k5, sz_keys, sz_merge, Bool.false_eq_true, dv_neI, dv_eqI, Option.getD_none, Option.getD_some, sz3, cutt2, gb, sum1, List.sum_cons, List.sum_nil, Nat.add_zero, Int.natCast_add, Int.natCast_one]
            · rw [lawN_bad (by simp only [partsN, if_true, if_false, str_eq, String.reduceEq])]
              simp! [step, m_law_sums_in, c_law_sums_in, k5, sz_keys, sz_merge, Bool.false_eq_true, dv_neI, dv_eqI, Option.getD_none, Option.getD_some, sz4]
            · rw [lawN_bad (by simp only [partsN, if_true, if_false, str_eq, String.reduceEq])]
              simp! [step, m_law_sums_in, c_law_sums_in, k5, sz_keys, sz_merge, Bool.false_eq_true, dv_neI, dv_eqI, Option.getD_none, Option.getD_some, sz5]
            · rw [lawN_bad (by simp only [partsN, if_true, if_false, str_eq, String.reduceEq])]
              simp! [step, m_law_sums_in, c_law_sums_in, k5, sz_keys, sz_merge, Bool.false_eq_true, dv_neI, dv_eqI, Option.getD_none, Option.getD_some, sz6]
            · rw [lawN_bad (by simp only [partsN, if_true, if_false, str_eq, String.reduceEq])]
              simp! [step, m_law_sums_in, c_law_sums_in, k5, sz_keys, sz_merge, Bool.false_eq_true, dv_neI, dv_eqI, Option.getD_none, Option.getD_some, sz7]
            · rw [lawN_bad (by simp only [partsN, if_true, if_false, str_eq, String.reduceEq])]
              simp! [step, m_law_sums_in, c_law_sums_in, k5, sz_keys, sz_merge, Bool.false_eq_true, dv_neI, dv_eqI, Option.getD_none, Option.getD_some, sz8]
            · rw [lawN_bad (by simp only [partsN, k1, k2, k3, if_false])]
              have va : valD szL (.inr k) = none := by rw [sz_at, if_neg (by simp only [FIVE, List.mem_cons, List.not_mem_nil, or_false, k4, k5', k6, k7, k8, not_false_eq_true]), if_neg (by rw [k3]; exact id)]
              simp! [step, m_law_sums_in, c_law_sums_in, k5, sz_keys, sz_merge, Bool.false_eq_true, dv_neI, dv_eqI, Option.getD_none, Option.getD_some, va, k1, k2, k3, k4, k5', k6, k7, k8]
          | [c] =>
            have hc := h2 c (by simp)
            have gc := ih hc (dp + 1) (by omega) n (by omega)
            rcases word_cases k with rfl | rfl | rfl | rfl | rfl | rfl | rfl | rfl | ⟨k1, k2, k3, k4, k5', k6, k7, k8⟩
            · rw [lawN_bad (by simp only [partsN, nf1, if_false])]
              simp! [step, m_law_sums_in, c_law_sums_in, k5, sz_keys, sz_merge, Bool.false_eq_true, dv_neI, dv_eqI, Option.getD_none, Option.getD_some, sz1]
            · rw [lawN_bad (by simp only [partsN, nf2, if_false])]
              simp! [step, m_law_sums_in, c_law_sums_in, k5, sz_keys, sz_merge, Bool.false_eq_true, dv_neI, dv_eqI, Option.getD_none, Option.getD_some, sz2]
            · rw [lawN_bad (by simp only [partsN, nf3, if_false])]
              simp! [step, m_law_sums_in, c_law_sums_in, k5, sz_keys, sz_merge, Bool.false_eq_true, dv_neI, dv_eqI, Option.getD_none, Option.getD_some, sz3]
            · rw [lawN_some (ps := [b, c]) (by simp only [partsN, tf1, if_true])]
              simp! [step, m_law_sums_in, c_law_sums_in, k5, sz_keys, sz_merge, Bool.false_eq_true, dv_neI, dv_eqI, Option.getD_none, Option.getD_some, sz4, cutt3, gb, gc, sum2, List.sum_cons, List.sum_nil, Nat.add_zero, Int.natCast_add, Int.natCast_one]
            · rw [lawN_some (ps := [b, c]) (by simp only [partsN, tf2, if_true])]
              simp! [step, m_law_sums_in, c_law_sums_in, k5, sz_keys, sz_merge, Bool.false_eq_true, dv_neI, dv_eqI, Option.getD_none, Option.getD_some, sz5, cutt3, gb, gc, sum2, List.sum_cons, List.sum_nil, Nat.add_zero, Int.natCast_add, Int.natCast_one]
            · rw [lawN_some (ps := [b, c]) (by simp only [partsN, tf3, if_true])]
              simp! [step, m_law_sums_in, c_law_sums_in, k5, sz_keys, sz_merge, Bool.false_eq_true, dv_neI, dv_eqI, Option.getD_none, Option.getD_some, sz6, cutt3, gb, gc, sum2, List.sum_cons, List.sum_nil, Nat.add_zero, Int.natCast_add, Int.natCast_one]
            · rw [lawN_some (ps := [b, c]) (by simp only [partsN, tf4, if_true])]
              simp! [step, m_law_sums_in, c_law_sums_in, k5, sz_keys, sz_merge, Bool.false_eq_true, dv_neI, dv_eqI, Option.getD_none, Option.getD_some, sz7, cutt3, gb, gc, sum2, List.sum_cons, List.sum_nil, Nat.add_zero, Int.natCast_add, Int.natCast_one]
            · rw [lawN_some (ps := [b, c]) (by simp only [partsN, tf5, if_true])]
              simp! [step, m_law_sums_in, c_law_sums_in, k5, sz_keys, sz_merge, Bool.false_eq_true, dv_neI, dv_eqI, Option.getD_none, Option.getD_some, sz8, cutt3, gb, gc, sum2, List.sum_cons, List.sum_nil, Nat.add_zero, Int.natCast_add, Int.natCast_one]
            · have nf : (k ∈ FIVE) = False := eq_false (by simp only [FIVE, List.mem_cons, List.not_mem_nil, or_false, k4, k5', k6, k7, k8, not_false_eq_true])
              rw [lawN_bad (by simp only [partsN, nf, if_false])]
              have va : valD szL (.inr k) = none := by rw [sz_at, if_neg (by simp only [FIVE, List.mem_cons, List.not_mem_nil, or_false, k4, k5', k6, k7, k8, not_false_eq_true]), if_neg (by rw [k3]; exact id)]
              simp! [step, m_law_sums_in, c_law_sums_in, k5, sz_keys, sz_merge, Bool.false_eq_true, dv_neI, dv_eqI, Option.getD_none, Option.getD_some, va, k1, k2, k3, k4, k5', k6, k7, k8]
          | c :: d :: r =>
            have l2 : (((r.length + 1 + 1 + 1 + 1 : Nat) : Int) = 2) = False := eq_false (by omega)
            have l3 : ((0 : Int) = ((r.length + 1 + 1 + 1 + 1 : Nat) : Int)) = False := eq_false (by omega)
            have l4 : ((2 : Int) = ((r.length + 1 + 1 + 1 + 1 : Nat) : Int)) = False := eq_false (by omega)
            have l5 : ((3 : Int) = ((r.length + 1 + 1 + 1 + 1 : Nat) : Int)) = False := eq_false (by omega)
            have l6 : (((r.length + 1 + 1 + 1 + 1 : Nat) : Int) = 0) = False := eq_false (by omega)
            rw [lawN_bad (show partsN (.tup (.str k :: b :: c :: d :: r)) = none from rfl)]
            rcases word_cases k with rfl | rfl | rfl | rfl | rfl | rfl | rfl | rfl | ⟨k1, k2, k3, k4, k5', k6, k7, k8⟩
            · simp! [step, m_law_sums_in, c_law_sums_in, k5, sz_keys, sz_merge, Bool.false_eq_true, dv_neI, dv_eqI, Option.getD_none, Option.getD_some, sz1, l2, l3, l4, l5, l6]
            · simp! [step, m_law_sums_in, c_law_sums_in, k5, sz_keys, sz_merge, Bool.false_eq_true, dv_neI, dv_eqI, Option.getD_none, Option.getD_some, sz2, l2, l3, l4, l5, l6]
            · simp! [step, m_law_sums_in, c_law_sums_in, k5, sz_keys, sz_merge, Bool.false_eq_true, dv_neI, dv_eqI, Option.getD_none, Option.getD_some, sz3, l2, l3, l4, l5, l6]
            · simp! [step, m_law_sums_in, c_law_sums_in, k5, sz_keys, sz_merge, Bool.false_eq_true, dv_neI, dv_eqI, Option.getD_none, Option.getD_some, sz4, l2, l3, l4, l5, l6]
            · simp! [step, m_law_sums_in, c_law_sums_in, k5, sz_keys, sz_merge, Bool.false_eq_true, dv_neI, dv_eqI, Option.getD_none, Option.getD_some, sz5, l2, l3, l4, l5, l6]
            · simp! [step, m_law_sums_in, c_law_sums_in, k5, sz_keys, sz_merge, Bool.false_eq_true, dv_neI, dv_eqI, Option.getD_none, Option.getD_some, sz6, l2, l3, l4, l5, l6]
            · simp! [step, m_law_sums_in, c_law_sums_in, k5, sz_keys, sz_merge, Bool.false_eq_true, dv_neI, dv_eqI, Option.getD_none, Option.getD_some, sz7, l2, l3, l4, l5, l6]
            · simp! [step, m_law_sums_in, c_law_sums_in, k5, sz_keys, sz_merge, Bool.false_eq_true, dv_neI, dv_eqI, Option.getD_none, Option.getD_some, sz8, l2, l3, l4, l5, l6]
            · have va : valD szL (.inr k) = none := by rw [sz_at, if_neg (by simp only [FIVE, List.mem_cons, List.not_mem_nil, or_false, k4, k5', k6, k7, k8, not_false_eq_true]), if_neg (by rw [k3]; exact id)]
              simp! [step, m_law_sums_in, c_law_sums_in, k5, sz_keys, sz_merge, Bool.false_eq_true, dv_neI, dv_eqI, Option.getD_none, Option.getD_some, va, k1, k2, k3, k4, k5', k6, k7, k8, l2, l3, l4, l5, l6]
theorem law_is_sum_spec {m : Nat} {d : D} (h : Ok m d) (n : Nat) (hn : 9 ≤ n) : fn n 15 [.fz d] = .ok (.v (.bl (decide (lawN 5 d ≤ 12)))) [none] := by
  obtain ⟨n, rfl⟩ : ∃ m, n = m + 1 := ⟨n - 1, by omega⟩
  have g := sums_spec 5 h 1 (by omega) n (by omega)
  have e : (((lawN 5 d : Nat) : Int) ≤ 12) = (lawN 5 d ≤ 12) := propext ⟨fun _ => by omega, fun _ => by omega⟩
  rw [fn_succ]
  simp! [step, m_law_is_sum, c_law_is_sum, g, e]
end K01

namespace K01
open PySem PySem.Spec L2 PyProof.Rows PV
local macro_rules | `(tactic| simp! [$ls,*]) => `(tactic| simp only [ob_ok, ob_stuck, ob_exc, ap_ret, ap_fail, ap_bnd, ap_var, var_fz, var_ow, var_io, var_bw, ap_K, ap_op, op_v, op_o, op_s, ap_val, take_v, take_o, take_s, takeS_fz, takeS_ow, view_v, view_o, view_s, viewS_fz, viewS_ow, viewS_io, viewS_bw, val_lst, val_dic, val_dit, sr_d, sr_nt, sr_ob, sr_no, ap_c1, c1k_some, ap_c2, c2k_some, arg_valm, arg_bwm, arg_iom, bwK_v, bwK_s, ioK_v, ioK_s, sq_nil, sq_cons, ap_cN, cNk_some, vs_nil, vs_cons, vsk_some, av_d, av_s, av_io, ar_nil, ar_cons, ark_some, arg_d, arg_s, arg_i, argS_fz, argS_ow, argS_io, argS_bw, argI_fz, argI_ow, argI_io, df_nil, df_d, df_s, df_io, ix_d, ix_s, ix_io, ap_call, callK_some, callD_true, callR_ok, rt_v, rt_o, ue_nil, ue_cons, uek_none, uek_ow, uek_io, of_nil, of_d, of_s, of_none, of_io, ap_B, br_v, ap_T, tru_non, tru_bl, tru_int, tru_tup, tru_lst, tru_scr, tru_dic, ap_not, notB_ok, ap_if, iteB_true, iteB_false, ap_and, ap_or, ap_andV, ap_orV, ap_notV, ap_seq, seqB_nx, seqB_rt, seqB_bk, seqB_ct, ap_nx, ap_bk, ap_ct, ap_sret, ap_sretN, ap_expr, ap_asg, asg_at, asg_vu, asg_vf, asg_vo, asg_ou, asg_of, asg_oo, asg_su, asg_sf, asg_so, asgJ_ow, asgJ_fz, ap_tgN, tgS_un, tgS_fz, tgS_ow, ap_tgNil, ap_tgCons, ap_asgT, ap_cSeq, sq_lst, sq_scr, sq_str, sq_tup, ap_rg1, ap_rg2, ap_for, for_nil, for_cons, forK_nx, forK_ct, forK_bk, forK_rt, tk_nil, tk_cons, ap_tup, ap_lst, ap_dic0, pm_nil, pm_cons, ap_dic, dicK_ok, ap_sl, slK_v, part_none, ap_kind, kd_dic, ap_get2, g2K_some, ap_get1, g1K_some, ap_oa, oa_ow, oa_io, ap_ot, ot_lst, ot_lstI, ot_dic, ot_dicI, ap_wr, wr_ow, wr_io, wrO_some, wrI_some, ap_set, ap_mut, run_F, runK_ok, fin_at, fin_nx, fin_v, fin_o, fin_s, finS_ow, finS_fz, outs_nil, outs_fz, outs_bw, outs_io, en_at, slot_fz, slot_io, slot_bw, dv_add, dv_sub, dv_neg, dv_eqI, dv_eqS, dv_eqB, dv_neI, dv_neS, dv_neB, dv_lt, dv_le, dv_gt, dv_ge, ixk_some, dv_ixT, dv_ixL, dv_ixR, dv_ixDS, dv_ixDI, dv_slT, dv_slL, dv_slR, dv_lenT, dv_lenL, dv_lenR, dv_lenD, dv_intI, dv_intB, dv_abs, dv_min, dv_max, dv_listT, dv_listL, dv_listR, dv_tupT, dv_tupL, dv_tupR, dv_get2S, dv_get2I, dv_dictD, at0, at1, at2, at3, at4, at5, ap_comp, optC_some, optC_none, cl_nil, cl_cons, wb_nil, wb_cons, wbS_un, wbS_fz, wp_nil, wp_cons, bk_nil, bk_cons, bkS_some, condK_true, condK_false, ap_turn, turnW_true, turnK_ok, ap_yes, ap_part, intK_int, nb_none, nb_some, slK_s, slV_some, pin_un, pin_fz, pin_ow, dv_isiII, dv_isiIB, ap_isi2, isi2K_at, isi2T_some, isi2B_some, ap_chain, chK_some, chS_true, chS_false, inS_some, notInS_some, dv_in, dv_notIn, inB_strsT, inB_strsL, inB_dic, inB_T1, inB_T2, inB_T3, dv_all, dv_any, ty_non, ty_bl, ty_int, ty_str, ty_tup, ty_lst, ty_dic, dv_isi, isiT_some, isiK_some, kb_nn, kb_nb, kb_ns, kb_nt, kb_nl, kb_bi, kb_bb, kb_bs, kb_bt, kb_bl, kb_ii, kb_ib, kb_is, kb_it, kb_il, kb_si, kb_sb, kb_ss, kb_st, kb_sl, kb_ti, kb_tb, kb_ts, kb_tt, kb_tl, kb_li, kb_lb, kb_ls, kb_lt, kb_ll, kb_di, kb_db, kb_ds, kb_dt, kb_dl, i2_n, i2_b, i2_i, i2_s, i2_t, i2_l, List.map_cons, List.map_nil, List.cons_append, List.nil_append, List.replicate_succ, List.replicate_zero, List.append_nil, List.length_cons, List.length_nil, List.getElem?_cons_zero, List.getElem?_cons_succ, List.set_cons_zero, List.set_cons_succ, List.all_cons, List.all_nil, Option.map_some, ↓reduceIte, Nat.reduceAdd, Nat.reduceSub, Nat.reduceEqDiff, Bool.and_true, Bool.true_and, Bool.and_false, Bool.false_and, Bool.not_true, Bool.not_false, Bool.or_false, Bool.or_true, Bool.false_or, Bool.true_or, decide_true, decide_false, eq_self, String.reduceEq, Int.reduceEq, Int.reduceLT, Int.reduceLE, run_A, tupK_ok, lstK_ok, compK_ok, ap_tgT_tup, ap_tgT_pr, ap_tgT_lst, sizeLine_eq, Nat.reduceLeDiff, Nat.reduceLT, str_eq, Int.reducePow, Nat.reducePow, Int.reduceToNat, Int.reduceNeg, Int.cast_ofNat_Int, Nat.reduceBNe, Wp_ok, WpM_ok, asg_vw, asg_ow', asg_sw, tgS_w, wbS_w, asg_vx, asg_ox, asg_sx, tgS_x, inB_T4, inB_T5, inB_T6, inB_T7, inB_T8, ap_or, ap_and, ap_andV, ap_orV, ap_not, optL, true_and, and_true, Int.reduceSub, Int.reduceAdd, Int.reduceMul, Int.reduceMod, $ls,*])
local macro_rules | `(tactic| simp!) => `(tactic| simp only [ob_ok, ob_stuck, ob_exc, ap_ret, ap_fail, ap_bnd, ap_var, var_fz, var_ow, var_io, var_bw, ap_K, ap_op, op_v, op_o, op_s, ap_val, take_v, take_o, take_s, takeS_fz, takeS_ow, view_v, view_o, view_s, viewS_fz, viewS_ow, viewS_io, viewS_bw, val_lst, val_dic, val_dit, sr_d, sr_nt, sr_ob, sr_no, ap_c1, c1k_some, ap_c2, c2k_some, arg_valm, arg_bwm, arg_iom, bwK_v, bwK_s, ioK_v, ioK_s, sq_nil, sq_cons, ap_cN, cNk_some, vs_nil, vs_cons, vsk_some, av_d, av_s, av_io, ar_nil, ar_cons, ark_some, arg_d, arg_s, arg_i, argS_fz, argS_ow, argS_io, argS_bw, argI_fz, argI_ow, argI_io, df_nil, df_d, df_s, df_io, ix_d, ix_s, ix_io, ap_call, callK_some, callD_true, callR_ok, rt_v, rt_o, ue_nil, ue_cons, uek_none, uek_ow, uek_io, of_nil, of_d, of_s, of_none, of_io, ap_B, br_v, ap_T, tru_non, tru_bl, tru_int, tru_tup, tru_lst, tru_scr, tru_dic, ap_not, notB_ok, ap_if, iteB_true, iteB_false, ap_and, ap_or, ap_andV, ap_orV, ap_notV, ap_seq, seqB_nx, seqB_rt, seqB_bk, seqB_ct, ap_nx, ap_bk, ap_ct, ap_sret, ap_sretN, ap_expr, ap_asg, asg_at, asg_vu, asg_vf, asg_vo, asg_ou, asg_of, asg_oo, asg_su, asg_sf, asg_so, asgJ_ow, asgJ_fz, ap_tgN, tgS_un, tgS_fz, tgS_ow, ap_tgNil, ap_tgCons, ap_asgT, ap_cSeq, sq_lst, sq_scr, sq_str, sq_tup, ap_rg1, ap_rg2, ap_for, for_nil, for_cons, forK_nx, forK_ct, forK_bk, forK_rt, tk_nil, tk_cons, ap_tup, ap_lst, ap_dic0, pm_nil, pm_cons, ap_dic, dicK_ok, ap_sl, slK_v, part_none, ap_kind, kd_dic, ap_get2, g2K_some, ap_get1, g1K_some, ap_oa, oa_ow, oa_io, ap_ot, ot_lst, ot_lstI, ot_dic, ot_dicI, ap_wr, wr_ow, wr_io, wrO_some, wrI_some, ap_set, ap_mut, run_F, runK_ok, fin_at, fin_nx, fin_v, fin_o, fin_s, finS_ow, finS_fz, outs_nil, outs_fz, outs_bw, outs_io, en_at, slot_fz, slot_io, slot_bw, dv_add, dv_sub, dv_neg, dv_eqI, dv_eqS, dv_eqB, dv_neI, dv_neS, dv_neB, dv_lt, dv_le, dv_gt, dv_ge, ixk_some, dv_ixT, dv_ixL, dv_ixR, dv_ixDS, dv_ixDI, dv_slT, dv_slL, dv_slR, dv_lenT, dv_lenL, dv_lenR, dv_lenD, dv_intI, dv_intB, dv_abs, dv_min, dv_max, dv_listT, dv_listL, dv_listR, dv_tupT, dv_tupL, dv_tupR, dv_get2S, dv_get2I, dv_dictD, at0, at1, at2, at3, at4, at5, ap_comp, optC_some, optC_none, cl_nil, cl_cons, wb_nil, wb_cons, wbS_un, wbS_fz, wp_nil, wp_cons, bk_nil, bk_cons, bkS_some, condK_true, condK_false, ap_turn, turnW_true, turnK_ok, ap_yes, ap_part, intK_int, nb_none, nb_some, slK_s, slV_some, pin_un, pin_fz, pin_ow, dv_isiII, dv_isiIB, ap_isi2, isi2K_at, isi2T_some, isi2B_some, ap_chain, chK_some, chS_true, chS_false, inS_some, notInS_some, dv_in, dv_notIn, inB_strsT, inB_strsL, inB_dic, inB_T1, inB_T2, inB_T3, dv_all, dv_any, ty_non, ty_bl, ty_int, ty_str, ty_tup, ty_lst, ty_dic, dv_isi, isiT_some, isiK_some, kb_nn, kb_nb, kb_ns, kb_nt, kb_nl, kb_bi, kb_bb, kb_bs, kb_bt, kb_bl, kb_ii, kb_ib, kb_is, kb_it, kb_il, kb_si, kb_sb, kb_ss, kb_st, kb_sl, kb_ti, kb_tb, kb_ts, kb_tt, kb_tl, kb_li, kb_lb, kb_ls, kb_lt, kb_ll, kb_di, kb_db, kb_ds, kb_dt, kb_dl, i2_n, i2_b, i2_i, i2_s, i2_t, i2_l, List.map_cons, List.map_nil, List.cons_append, List.nil_append, List.replicate_succ, List.replicate_zero, List.append_nil, List.length_cons, List.length_nil, List.getElem?_cons_zero, List.getElem?_cons_succ, List.set_cons_zero, List.set_cons_succ, List.all_cons, List.all_nil, Option.map_some, ↓reduceIte, Nat.reduceAdd, Nat.reduceSub, Nat.reduceEqDiff, Bool.and_true, Bool.true_and, Bool.and_false, Bool.false_and, Bool.not_true, Bool.not_false, Bool.or_false, Bool.or_true, Bool.false_or, Bool.true_or, decide_true, decide_false, eq_self, String.reduceEq, Int.reduceEq, Int.reduceLT, Int.reduceLE, run_A, tupK_ok, lstK_ok, compK_ok, ap_tgT_tup, ap_tgT_pr, ap_tgT_lst, sizeLine_eq, Nat.reduceLeDiff, Nat.reduceLT, str_eq, Int.reducePow, Nat.reducePow, Int.reduceToNat, Int.reduceNeg, Int.cast_ofNat_Int, Nat.reduceBNe, Wp_ok, WpM_ok, asg_vw, asg_ow', asg_sw, tgS_w, wbS_w, asg_vx, asg_ox, asg_sx, tgS_x, inB_T4, inB_T5, inB_T6, inB_T7, inB_T8, ap_or, ap_and, ap_andV, ap_orV, ap_not, optL, true_and, and_true, Int.reduceSub, Int.reduceAdd, Int.reduceMul, Int.reduceMod])
/-! ### things bent -/
def okB : Nat → Nat → D → Bool
  | _, _, .non => true
  | _, _, .bl _ => true
  | _, _, .int _ => true
  | _, _, .str z => (PyData.str z).canLay0 && decide (z.length ≤ 1000)
  | _, _, .lst _ => true
  | _, _, .dic _ => true
  | n + 1, m, .tup ds => decide (ds.length ≤ m) && ds.all (okB n m)
  | _, _, _ => false
theorem okB_ok : ∀ (n m : Nat) (d : D), okB n m d = true → Ok m d
  | 0, m, d, h => by
    cases d with
    | str z => simp only [okB, Bool.and_eq_true, decide_eq_true_eq] at h; exact .str h.1 h.2
    | _ => first | (simp [okB] at h; done) | constructor
  | n + 1, m, d, h => by
    cases d with
    | tup ds =>
      simp only [okB, Bool.and_eq_true, decide_eq_true_eq, List.all_eq_true] at h
      exact .tup h.1 fun x hx => okB_ok n m x (h.2 x hx)
    | str z => simp only [okB, Bool.and_eq_true, decide_eq_true_eq] at h; exact .str h.1 h.2
    | _ => first | (simp [okB] at h; done) | constructor
theorem Ok.up {m m' : Nat} (q : m ≤ m') {d : D} (h : Ok m d) : Ok m' d := by
  induction h with
  | non => exact .non
  | bl b => exact .bl b
  | int i => exact .int i
  | str h h2 => exact .str h h2
  | lst ds => exact .lst ds
  | dic ds => exact .dic ds
  | tup h h2 ih => exact .tup (Nat.le_trans h q) ih
theorem cut_mem {ds : List D} {a b : Option Int} {x : D} (h : x ∈ cutD ds a b) : x ∈ ds := by
  unfold PV.cutD at h
  exact List.mem_of_mem_drop (List.mem_of_mem_take h)
def ODD : List D := [.non, .bl true, .bl false, .int 0, .int 1, .int 1000, .int (-1), .int 999, .str "", .str "a", .str "lets", .str "let", .str "add", .str "num", .str "of", .str "not", .tup [], .lst [], .dic []] ++
  [.tup [.str "num", .int 5], .tup [.str "num", .bl true], .tup [.str "num", .int 1000], .tup [.str "of", .str "let"], .tup [.str "not"], .tup [.str "add", .tup [.str "num", .int 1]], .int 1000000000000000000000000000000000000000] ++
  [.tup [.str "num", .lst [.int 5]], .lst [.str "num", .int 5], .tup [.str "of", .str "A"], .tup [.str "of", .str ""], .tup [.str "of", .str "abcdefghi"], .dic [(.inr "num", .int 5)], .tup [.str "a", .int 5]] ++
  [.tup [.str "not", .tup [.str "of", .str "not"]], .tup [.str "take", .str "a"], .tup [.str "clock", .str "b"], .tup [.str "leap", .int 0, .tup [.str "num", .int 1]], .int 31, .str "box", .int 1001, .int 2]
theorem odd_ok : ODD.all (okB 5 3) = true := by decide +kernel
theorem odd_mem {d : D} (h : d ∈ ODD) : Ok 3 d := okB_ok 5 3 d (List.all_eq_true.mp odd_ok d h)
theorem pow39 : powD (.int 10) (.int 39) = .d (.int 1000000000000000000000000000000000000000) := by
  rw [dv_pow (by decide) (by decide) (by decide)]
  have : (10 : Int) ^ (39 : Int).toNat = 1000000000000000000000000000000000000000 := by decide +kernel
  rw [this]
theorem num5_keys : keysD [(.str "num", .int 5)] = some [(.inr "num", .int 5)] := (rfl)
theorem num5_merge : mergeD [] [((.inr "num" : Key), D.int 5)] = [(.inr "num", .int 5)] := (rfl)
section
variable (ns : List Int) (hl : ns.length ≤ 63)
include hl
theorem odd_spec {m : Nat} {d : D} (h : Ok m d) (hm : 3 ≤ m) (hm2 : m ≤ 400) (k : Int) (l : LX) (hk : 0 ≤ k) (hk2 : k + 10 < 2 ^ 32) : ∃ r, Ok (2 * m + 2) r ∧ ∀ n, 3 ≤ n → fn n 10 [.io (.dic (stt ns k l)), .fz d] = .ok (.v r) [some (.dic (stt ns (k + 1) l)), none] := by
  have h41 : ODD.length = 41 := rfl
  by_cases ht : ∃ ds, d = .tup ds
  · obtain ⟨ds, rfl⟩ := ht
    obtain ⟨hds, hd⟩ : ds.length ≤ m ∧ ∀ x ∈ ds, Ok m x := by cases h with | tup a b => exact ⟨a, b⟩
    obtain ⟨p, p1, p2, p3⟩ := pick_spec ns hl k 48 l hk (by omega) (by decide)
    obtain ⟨T, hT⟩ : ∃ T, T = ODD ++ [.lst ds, .tup (ds ++ [.int 0]), .tup (cutD ds none (some (-1))), .tup [.str "not", .tup ds], .tup (ds ++ cutD ds none (some 1)), .tup (cutD ds (some 1) none), .tup (List.replicate 2 ds).flatten] := ⟨_, rfl⟩
    have hTl : T.length = 48 := by rw [hT, List.length_append, h41]; rfl
    have hTo : ∀ x ∈ T, Ok (2 * m + 2) x := by
      intro x hx
      rw [hT] at hx
      rcases List.mem_append.mp hx with hx | hx
      · exact (odd_mem hx).up (by omega)
      · have c1 := cut_len ds none (some (-1))
        have c2 := cut_len ds none (some 1)
        have c3 := cut_len ds (some 1) none
        have up : ∀ y ∈ ds, Ok (2 * m + 2) y := fun y hy => (hd y hy).up (by omega)
        simp only [List.mem_cons, List.not_mem_nil, or_false] at hx
        rcases hx with rfl | rfl | rfl | rfl | rfl | rfl | rfl
        · exact .lst _
        · refine .tup (by rw [List.length_append]; simp only [List.length_cons, List.length_nil]; omega) fun y hy => ?_
          rcases List.mem_append.mp hy with hy | hy
          · exact up y hy
          · simp only [List.mem_singleton] at hy; subst hy; exact .int 0
        · exact .tup (by omega) fun y hy => up y (cut_mem hy)
        · refine .tup (by simp only [List.length_cons, List.length_nil]; omega) fun y hy => ?_
          simp only [List.mem_cons, List.not_mem_nil, or_false] at hy
          rcases hy with rfl | rfl
          · exact .str (by decide +kernel) (by decide +kernel)
          · exact .tup (by omega) up
        · refine .tup (by rw [List.length_append]; omega) fun y hy => ?_
          rcases List.mem_append.mp hy with hy | hy
          · exact up y hy
          · exact up y (cut_mem hy)
        · exact .tup (by omega) fun y hy => up y (cut_mem hy)
        · refine .tup ?_ fun y hy => ?_
          · simp only [List.replicate_succ, List.replicate_zero, List.flatten_cons, List.flatten_nil, List.length_append, List.length_nil]; omega
          · simp only [List.replicate_succ, List.replicate_zero, List.flatten_cons, List.flatten_nil, List.append_nil, List.mem_append] at hy
            exact up y (hy.elim id id)
    obtain ⟨r, hr⟩ : ∃ r, T[p.toNat]? = some r := ⟨T[p.toNat]'(by omega), List.getElem?_eq_getElem _⟩
    have hat : atI T p = some r := at_of p1 hr
    refine ⟨r, hTo r (List.mem_of_getElem? hr), fun n hn => ?_⟩
    obtain ⟨n, rfl⟩ : ∃ m, n = m + 1 := ⟨n - 1, by omega⟩
    have p4 := p3 n (by omega)
    have x1 : addD (.tup ds) (.tup [.int 0]) = .nt (ds ++ [.int 0]) := dv_addT (by rw [sizeLine_eq]; simp only [List.length_cons, List.length_nil]; omega)
    have x2 : addD (.tup ds) (.tup (cutD ds none (some 1))) = .nt (ds ++ cutD ds none (some 1)) := dv_addT (by have := cut_len ds none (some 1); rw [sizeLine_eq]; omega)
    have x3 : mulD (.tup ds) (.int 2) = .nt (List.replicate 2 ds).flatten := dv_mulT (k := 2) (by decide) (by omega)
    rw [hT] at hat
    simp only [ODD, List.cons_append, List.nil_append, List.replicate_succ, List.replicate_zero] at hat
    rw [fn_succ]
    simp! [step, m_law_odd, c_law_odd, dv_addL, pow39, num5_keys, num5_merge, x1, x2, x3, p4, hat]
  · obtain ⟨p, p1, p2, p3⟩ := pick_spec ns hl k 41 l hk (by omega) (by decide)
    obtain ⟨r, hr⟩ : ∃ r, ODD[p.toNat]? = some r := ⟨ODD[p.toNat]'(by omega), List.getElem?_eq_getElem _⟩
    have hat : atI ODD p = some r := at_of p1 hr
    refine ⟨r, (odd_mem (List.mem_of_getElem? hr)).up (by omega), fun n hn => ?_⟩
    obtain ⟨n, rfl⟩ : ∃ m, n = m + 1 := ⟨n - 1, by omega⟩
    have p4 := p3 n (by omega)
    simp only [ODD, List.cons_append, List.nil_append] at hat
    have it : isiD [d, .ty "tuple"] = .d (.bl false) := by
      cases h with
      | tup h1 h2 => exact (ht ⟨_, rfl⟩).elim
      | _ => simp!
    rw [fn_succ]
    simp! [step, m_law_odd, c_law_odd, dv_addL, pow39, num5_keys, num5_merge, it, p4, hat]
omit hl in
theorem isi_tup {m : Nat} {d : D} (h : Ok m d) : (∃ ds, d = .tup ds ∧ isiD [d, .ty "tuple"] = .d (.bl true)) ∨ isiD [d, .ty "tuple"] = .d (.bl false) := by
  cases h with
  | tup h1 h2 => exact .inl ⟨_, rfl, by simp!⟩
  | _ => exact .inr (by simp!)
theorem bent_spec {m : Nat} (hm : 3 ≤ m) (hm2 : m ≤ 400) : ∀ (j : Nat) {d : D} (_ : Ok m d) (dp : Int), dp + j = 7 → j ≤ 7 → ∀ (k : Int) (l : LX), 0 ≤ k → k + 2 * j + 20 < 2 ^ 32 → ∃ (r : D) (k' : Int), Ok (2 * m + 2) r ∧ k ≤ k' ∧ k' ≤ k + 2 * j + 2 ∧
    ∀ n, j + 5 ≤ n → fn n 11 [.io (.dic (stt ns k l)), .fz d, .fz (.int dp)] = .ok (.v r) [some (.dic (stt ns k' l)), none, none] := by
  intro j
  induction j with
  | zero =>
    intro d h dp hj _ k l hk hk2
    obtain ⟨r, r1, r2⟩ := odd_spec ns hl h hm hm2 k l hk (by omega)
    refine ⟨r, k + 1, r1, by omega, by omega, fun n hn => ?_⟩
    obtain ⟨n, rfl⟩ : ∃ m, n = m + 1 := ⟨n - 1, by omega⟩
    have r3 := r2 n (by omega)
    have d7 : (dp < 7) = False := eq_false (by omega)
    rw [fn_succ]
    rcases isi_tup h with ⟨ds, rfl, it⟩ | it
    · by_cases q : 0 < (ds.length : Int)
      · simp! [step, m_law_bent, c_law_bent, it, d7, q, r3]
      · simp! [step, m_law_bent, c_law_bent, it, d7, q, r3]
    · simp! [step, m_law_bent, c_law_bent, it, r3]
  | succ j ih =>
    intro d h dp hj hj7 k l hk hk2
    have d7 : (dp < 7) = True := eq_true (by omega)
    have odd0 : ∀ it : isiD [d, .ty "tuple"] = .d (.bl false), ∃ (r : D) (k' : Int), Ok (2 * m + 2) r ∧ k ≤ k' ∧ k' ≤ k + 2 * ((j + 1 : Nat) : Int) + 2 ∧
        ∀ n, j + 1 + 5 ≤ n → fn n 11 [.io (.dic (stt ns k l)), .fz d, .fz (.int dp)] = .ok (.v r) [some (.dic (stt ns k' l)), none, none] := by
      intro it
      obtain ⟨r, r1, r2⟩ := odd_spec ns hl h hm hm2 k l hk (by omega)
      refine ⟨r, k + 1, r1, by omega, by omega, fun n hn => ?_⟩
      obtain ⟨n, rfl⟩ : ∃ m, n = m + 1 := ⟨n - 1, by omega⟩
      have r3 := r2 n (by omega)
      rw [fn_succ]
      simp! [step, m_law_bent, c_law_bent, it, r3]
    rcases isi_tup h with ⟨ds, rfl, it⟩ | it
    · obtain ⟨hds, hd⟩ : ds.length ≤ m ∧ ∀ x ∈ ds, Ok m x := by cases h with | tup a b => exact ⟨a, b⟩
      by_cases q : 0 < (ds.length : Int)
      · obtain ⟨p, p1, p2, p3⟩ := pick_spec ns hl k 4 l hk (by omega) (by decide)
        by_cases p0 : 0 < p
        · obtain ⟨a, a1, a2, a3⟩ := pick_spec ns hl (k + 1) (ds.length : Int) l (by omega) (by omega) q
          obtain ⟨a, rfl⟩ : ∃ b : Nat, a = (b : Int) := ⟨a.toNat, by omega⟩
          obtain ⟨x, hx⟩ : ∃ x, ds[a]? = some x := ⟨ds[a]'(by omega), List.getElem?_eq_getElem _⟩
          have hat : atI ds (a : Int) = some x := by rw [at_nat, hx]
          obtain ⟨y, k', y1, y2, y3, y4⟩ := ih (hd x (List.mem_of_getElem? hx)) (dp + 1) (by omega) (by omega) (k + 1 + 1) l (by omega) (by omega)
          have c1 := cut_len ds none (some (a : Int))
          have c2 := cut_len ds (some ((a : Int) + 1)) none
          have e1 : addD (.tup (PV.cutD ds none (some (a : Int)))) (.tup [y]) = .nt (PV.cutD ds none (some (a : Int)) ++ [y]) := dv_addT (by rw [sizeLine_eq]; simp only [List.length_cons, List.length_nil]; omega)
          have e2 : addD (.tup (PV.cutD ds none (some (a : Int)) ++ [y])) (.tup (PV.cutD ds (some ((a : Int) + 1)) none)) = .nt (PV.cutD ds none (some (a : Int)) ++ [y] ++ PV.cutD ds (some ((a : Int) + 1)) none) := dv_addT (by rw [sizeLine_eq]; simp only [List.length_append, List.length_cons, List.length_nil]; omega)
          refine ⟨.tup (PV.cutD ds none (some (a : Int)) ++ [y] ++ PV.cutD ds (some ((a : Int) + 1)) none), k', .tup (by simp only [List.length_append, List.length_cons, List.length_nil]; omega) ?_, by omega, by omega, fun n hn => ?_⟩
          · intro z hz
            simp only [List.mem_append, List.mem_singleton] at hz
            rcases hz with (hz | rfl) | hz
            · exact (hd z (cut_mem hz)).up (by omega)
            · exact y1
            · exact (hd z (cut_mem hz)).up (by omega)
          · obtain ⟨n, rfl⟩ : ∃ m, n = m + 1 := ⟨n - 1, by omega⟩
            have p4 := p3 n (by omega)
            have a4 := a3 n (by omega)
            have y5 := y4 n (by omega)
            rw [fn_succ]
            simp! [step, m_law_bent, c_law_bent, it, d7, q, p4, p0, a4, hat, y5, e1, e2]
        · obtain ⟨r, r1, r2⟩ := odd_spec ns hl h hm hm2 (k + 1) l (by omega) (by omega)
          refine ⟨r, k + 1 + 1, r1, by omega, by omega, fun n hn => ?_⟩
          obtain ⟨n, rfl⟩ : ∃ m, n = m + 1 := ⟨n - 1, by omega⟩
          have r3 := r2 n (by omega)
          have p4 := p3 n (by omega)
          rw [fn_succ]
          simp! [step, m_law_bent, c_law_bent, it, d7, q, p4, p0, r3]
      · obtain ⟨r, r1, r2⟩ := odd_spec ns hl h hm hm2 k l hk (by omega)
        refine ⟨r, k + 1, r1, by omega, by omega, fun n hn => ?_⟩
        obtain ⟨n, rfl⟩ : ∃ m, n = m + 1 := ⟨n - 1, by omega⟩
        have r3 := r2 n (by omega)
        rw [fn_succ]
        simp! [step, m_law_bent, c_law_bent, it, q, r3]
    · exact odd0 it
end
end K01

namespace K01
open PySem PySem.Spec L2 PyProof.Rows PV
local macro_rules | `(tactic| simp! [$ls,*]) => `(tactic| simp only [ob_ok, ob_stuck, ob_exc, ap_ret, ap_fail, ap_bnd, ap_var, var_fz, var_ow, var_io, var_bw, ap_K, ap_op, op_v, op_o, op_s, ap_val, take_v, take_o, take_s, takeS_fz, takeS_ow, view_v, view_o, view_s, viewS_fz, viewS_ow, viewS_io, viewS_bw, val_lst, val_dic, val_dit, sr_d, sr_nt, sr_ob, sr_no, ap_c1, c1k_some, ap_c2, c2k_some, arg_valm, arg_bwm, arg_iom, bwK_v, bwK_s, ioK_v, ioK_s, sq_nil, sq_cons, ap_cN, cNk_some, vs_nil, vs_cons, vsk_some, av_d, av_s, av_io, ar_nil, ar_cons, ark_some, arg_d, arg_s, arg_i, argS_fz, argS_ow, argS_io, argS_bw, argI_fz, argI_ow, argI_io, df_nil, df_d, df_s, df_io, ix_d, ix_s, ix_io, ap_call, callK_some, callD_true, callR_ok, rt_v, rt_o, ue_nil, ue_cons, uek_none, uek_ow, uek_io, of_nil, of_d, of_s, of_none, of_io, ap_B, br_v, ap_T, tru_non, tru_bl, tru_int, tru_tup, tru_lst, tru_scr, tru_dic, ap_not, notB_ok, ap_if, iteB_true, iteB_false, ap_and, ap_or, ap_andV, ap_orV, ap_notV, ap_seq, seqB_nx, seqB_rt, seqB_bk, seqB_ct, ap_nx, ap_bk, ap_ct, ap_sret, ap_sretN, ap_expr, ap_asg, asg_at, asg_vu, asg_vf, asg_vo, asg_ou, asg_of, asg_oo, asg_su, asg_sf, asg_so, asgJ_ow, asgJ_fz, ap_tgN, tgS_un, tgS_fz, tgS_ow, ap_tgNil, ap_tgCons, ap_asgT, ap_cSeq, sq_lst, sq_scr, sq_str, sq_tup, ap_rg1, ap_rg2, ap_for, for_nil, for_cons, forK_nx, forK_ct, forK_bk, forK_rt, tk_nil, tk_cons, ap_tup, ap_lst, ap_dic0, pm_nil, pm_cons, ap_dic, dicK_ok, ap_sl, slK_v, part_none, ap_kind, kd_dic, ap_get2, g2K_some, ap_get1, g1K_some, ap_oa, oa_ow, oa_io, ap_ot, ot_lst, ot_lstI, ot_dic, ot_dicI, ap_wr, wr_ow, wr_io, wrO_some, wrI_some, ap_set, ap_mut, run_F, runK_ok, fin_at, fin_nx, fin_v, fin_o, fin_s, finS_ow, finS_fz, outs_nil, outs_fz, outs_bw, outs_io, en_at, slot_fz, slot_io, slot_bw, dv_add, dv_sub, dv_neg, dv_eqI, dv_eqS, dv_eqB, dv_neI, dv_neS, dv_neB, dv_lt, dv_le, dv_gt, dv_ge, ixk_some, dv_ixT, dv_ixL, dv_ixR, dv_ixDS, dv_ixDI, dv_slT, dv_slL, dv_slR, dv_lenT, dv_lenL, dv_lenR, dv_lenD, dv_intI, dv_intB, dv_abs, dv_min, dv_max, dv_listT, dv_listL, dv_listR, dv_tupT, dv_tupL, dv_tupR, dv_get2S, dv_get2I, dv_dictD, at0, at1, at2, at3, at4, at5, ap_comp, optC_some, optC_none, cl_nil, cl_cons, wb_nil, wb_cons, wbS_un, wbS_fz, wp_nil, wp_cons, bk_nil, bk_cons, bkS_some, condK_true, condK_false, ap_turn, turnW_true, turnK_ok, ap_yes, ap_part, intK_int, nb_none, nb_some, slK_s, slV_some, pin_un, pin_fz, pin_ow, dv_isiII, dv_isiIB, ap_isi2, isi2K_at, isi2T_some, isi2B_some, ap_chain, chK_some, chS_true, chS_false, inS_some, notInS_some, dv_in, dv_notIn, inB_strsT, inB_strsL, inB_dic, inB_T1, inB_T2, inB_T3, dv_all, dv_any, ty_non, ty_bl, ty_int, ty_str, ty_tup, ty_lst, ty_dic, dv_isi, isiT_some, isiK_some, kb_nn, kb_nb, kb_ns, kb_nt, kb_nl, kb_bi, kb_bb, kb_bs, kb_bt, kb_bl, kb_ii, kb_ib, kb_is, kb_it, kb_il, kb_si, kb_sb, kb_ss, kb_st, kb_sl, kb_ti, kb_tb, kb_ts, kb_tt, kb_tl, kb_li, kb_lb, kb_ls, kb_lt, kb_ll, kb_di, kb_db, kb_ds, kb_dt, kb_dl, i2_n, i2_b, i2_i, i2_s, i2_t, i2_l, List.map_cons, List.map_nil, List.cons_append, List.nil_append, List.replicate_succ, List.replicate_zero, List.append_nil, List.length_cons, List.length_nil, List.getElem?_cons_zero, List.getElem?_cons_succ, List.set_cons_zero, List.set_cons_succ, List.all_cons, List.all_nil, Option.map_some, ↓reduceIte, Nat.reduceAdd, Nat.reduceSub, Nat.reduceEqDiff, Bool.and_true, Bool.true_and, Bool.and_false, Bool.false_and, Bool.not_true, Bool.not_false, Bool.or_false, Bool.or_true, Bool.false_or, Bool.true_or, decide_true, decide_false, eq_self, String.reduceEq, Int.reduceEq, Int.reduceLT, Int.reduceLE, run_A, tupK_ok, lstK_ok, compK_ok, ap_tgT_tup, ap_tgT_pr, ap_tgT_lst, sizeLine_eq, Nat.reduceLeDiff, Nat.reduceLT, str_eq, Int.reducePow, Nat.reducePow, Int.reduceToNat, Int.reduceNeg, Int.cast_ofNat_Int, Nat.reduceBNe, Wp_ok, WpM_ok, asg_vw, asg_ow', asg_sw, tgS_w, wbS_w, asg_vx, asg_ox, asg_sx, tgS_x, inB_T4, inB_T5, inB_T6, inB_T7, inB_T8, ap_or, ap_and, ap_andV, ap_orV, ap_not, optL, true_and, and_true, Int.reduceSub, Int.reduceAdd, Int.reduceMul, Int.reduceMod, $ls,*])
local macro_rules | `(tactic| simp!) => `(tactic| simp only [ob_ok, ob_stuck, ob_exc, ap_ret, ap_fail, ap_bnd, ap_var, var_fz, var_ow, var_io, var_bw, ap_K, ap_op, op_v, op_o, op_s, ap_val, take_v, take_o, take_s, takeS_fz, takeS_ow, view_v, view_o, view_s, viewS_fz, viewS_ow, viewS_io, viewS_bw, val_lst, val_dic, val_dit, sr_d, sr_nt, sr_ob, sr_no, ap_c1, c1k_some, ap_c2, c2k_some, arg_valm, arg_bwm, arg_iom, bwK_v, bwK_s, ioK_v, ioK_s, sq_nil, sq_cons, ap_cN, cNk_some, vs_nil, vs_cons, vsk_some, av_d, av_s, av_io, ar_nil, ar_cons, ark_some, arg_d, arg_s, arg_i, argS_fz, argS_ow, argS_io, argS_bw, argI_fz, argI_ow, argI_io, df_nil, df_d, df_s, df_io, ix_d, ix_s, ix_io, ap_call, callK_some, callD_true, callR_ok, rt_v, rt_o, ue_nil, ue_cons, uek_none, uek_ow, uek_io, of_nil, of_d, of_s, of_none, of_io, ap_B, br_v, ap_T, tru_non, tru_bl, tru_int, tru_tup, tru_lst, tru_scr, tru_dic, ap_not, notB_ok, ap_if, iteB_true, iteB_false, ap_and, ap_or, ap_andV, ap_orV, ap_notV, ap_seq, seqB_nx, seqB_rt, seqB_bk, seqB_ct, ap_nx, ap_bk, ap_ct, ap_sret, ap_sretN, ap_expr, ap_asg, asg_at, asg_vu, asg_vf, asg_vo, asg_ou, asg_of, asg_oo, asg_su, asg_sf, asg_so, asgJ_ow, asgJ_fz, ap_tgN, tgS_un, tgS_fz, tgS_ow, ap_tgNil, ap_tgCons, ap_asgT, ap_cSeq, sq_lst, sq_scr, sq_str, sq_tup, ap_rg1, ap_rg2, ap_for, for_nil, for_cons, forK_nx, forK_ct, forK_bk, forK_rt, tk_nil, tk_cons, ap_tup, ap_lst, ap_dic0, pm_nil, pm_cons, ap_dic, dicK_ok, ap_sl, slK_v, part_none, ap_kind, kd_dic, ap_get2, g2K_some, ap_get1, g1K_some, ap_oa, oa_ow, oa_io, ap_ot, ot_lst, ot_lstI, ot_dic, ot_dicI, ap_wr, wr_ow, wr_io, wrO_some, wrI_some, ap_set, ap_mut, run_F, runK_ok, fin_at, fin_nx, fin_v, fin_o, fin_s, finS_ow, finS_fz, outs_nil, outs_fz, outs_bw, outs_io, en_at, slot_fz, slot_io, slot_bw, dv_add, dv_sub, dv_neg, dv_eqI, dv_eqS, dv_eqB, dv_neI, dv_neS, dv_neB, dv_lt, dv_le, dv_gt, dv_ge, ixk_some, dv_ixT, dv_ixL, dv_ixR, dv_ixDS, dv_ixDI, dv_slT, dv_slL, dv_slR, dv_lenT, dv_lenL, dv_lenR, dv_lenD, dv_intI, dv_intB, dv_abs, dv_min, dv_max, dv_listT, dv_listL, dv_listR, dv_tupT, dv_tupL, dv_tupR, dv_get2S, dv_get2I, dv_dictD, at0, at1, at2, at3, at4, at5, ap_comp, optC_some, optC_none, cl_nil, cl_cons, wb_nil, wb_cons, wbS_un, wbS_fz, wp_nil, wp_cons, bk_nil, bk_cons, bkS_some, condK_true, condK_false, ap_turn, turnW_true, turnK_ok, ap_yes, ap_part, intK_int, nb_none, nb_some, slK_s, slV_some, pin_un, pin_fz, pin_ow, dv_isiII, dv_isiIB, ap_isi2, isi2K_at, isi2T_some, isi2B_some, ap_chain, chK_some, chS_true, chS_false, inS_some, notInS_some, dv_in, dv_notIn, inB_strsT, inB_strsL, inB_dic, inB_T1, inB_T2, inB_T3, dv_all, dv_any, ty_non, ty_bl, ty_int, ty_str, ty_tup, ty_lst, ty_dic, dv_isi, isiT_some, isiK_some, kb_nn, kb_nb, kb_ns, kb_nt, kb_nl, kb_bi, kb_bb, kb_bs, kb_bt, kb_bl, kb_ii, kb_ib, kb_is, kb_it, kb_il, kb_si, kb_sb, kb_ss, kb_st, kb_sl, kb_ti, kb_tb, kb_ts, kb_tt, kb_tl, kb_li, kb_lb, kb_ls, kb_lt, kb_ll, kb_di, kb_db, kb_ds, kb_dt, kb_dl, i2_n, i2_b, i2_i, i2_s, i2_t, i2_l, List.map_cons, List.map_nil, List.cons_append, List.nil_append, List.replicate_succ, List.replicate_zero, List.append_nil, List.length_cons, List.length_nil, List.getElem?_cons_zero, List.getElem?_cons_succ, List.set_cons_zero, List.set_cons_succ, List.all_cons, List.all_nil, Option.map_some, ↓reduceIte, Nat.reduceAdd, Nat.reduceSub, Nat.reduceEqDiff, Bool.and_true, Bool.true_and, Bool.and_false, Bool.false_and, Bool.not_true, Bool.not_false, Bool.or_false, Bool.or_true, Bool.false_or, Bool.true_or, decide_true, decide_false, eq_self, String.reduceEq, Int.reduceEq, Int.reduceLT, Int.reduceLE, run_A, tupK_ok, lstK_ok, compK_ok, ap_tgT_tup, ap_tgT_pr, ap_tgT_lst, sizeLine_eq, Nat.reduceLeDiff, Nat.reduceLT, str_eq, Int.reducePow, Nat.reducePow, Int.reduceToNat, Int.reduceNeg, Int.cast_ofNat_Int, Nat.reduceBNe, Wp_ok, WpM_ok, asg_vw, asg_ow', asg_sw, tgS_w, wbS_w, asg_vx, asg_ox, asg_sx, tgS_x, inB_T4, inB_T5, inB_T6, inB_T7, inB_T8, ap_or, ap_and, ap_andV, ap_orV, ap_not, optL, true_and, and_true, Int.reduceSub, Int.reduceAdd, Int.reduceMul, Int.reduceMod])
theorem op_ok (o : Op) : Ok 3 (.str o.w) := by cases o <;> exact .str (by decide +kernel) (by decide +kernel)
theorem sm_ok : ∀ s : Sm, s.ok → Ok 3 s.d
  | .num v, _ => .tup (by simp) (by
    intro x hx
    simp only [List.mem_cons, List.not_mem_nil, or_false] at hx
    rcases hx with rfl | rfl
    · exact .str (by decide +kernel) (by decide +kernel)
    · exact .int v)
  | .of z, h => .tup (by simp) (by
    intro x hx
    simp only [List.mem_cons, List.not_mem_nil, or_false] at hx
    rcases hx with rfl | rfl
    · exact .str (by decide +kernel) (by decide +kernel)
    · exact .str h.1 h.2)
  | .not a, h => .tup (by simp) (by
    intro x hx
    simp only [List.mem_cons, List.not_mem_nil, or_false] at hx
    rcases hx with rfl | rfl
    · exact .str (by decide +kernel) (by decide +kernel)
    · exact sm_ok a h)
  | .bin o a b, h => .tup (by simp) (by
    intro x hx
    simp only [List.mem_cons, List.not_mem_nil, or_false] at hx
    rcases hx with rfl | rfl | rfl
    · exact op_ok o
    · exact sm_ok a h.1
    · exact sm_ok b h.2)
theorem st0 (ns : List Int) : mergeD [] [(.inr "script", scD ns), (.inr "k", .int 0)] = stt ns 0 (0, none) := by
  simp [mergeD, putD, stt, str_eq]
theorem keys2 (x y : D) : keysD [(.str "script", x), (.str "k", y)] = some [(.inr "script", x), (.inr "k", y)] := (rfl)
def WORDS : Str := "let leap get put take free send fetch say clock lot hear add sub mul less same not box lock lane door hand"
theorem words_eq : (("let leap get put take free send fetch say clock lot hear add sub mul less same not box lock" : Str) ++ (" lane door hand" : Str)) = WORDS := by decide +kernel
theorem words_split : Txt.split WORDS " " = LANG := by decide +kernel
theorem words_splitD : splitF " " (.str WORDS) = .ob (.lst (LANG.map D.str)) := by
  rw [dv_split (by decide +kernel) (by decide +kernel), words_split]
theorem words_add : addD (.str "let leap get put take free send fetch say clock lot hear add sub mul less same not box lock") (.str " lane door hand") = .d (.str WORDS) := by
  rw [dv_addS (by rw [sizeLine_eq]; decide +kernel), words_eq]
def BNDS : List D := [.tup [.str "mul", .tup [.str "add", .tup [.str "add", .tup [.str "num", .int 1], .tup [.str "num", .int 1]], .tup [.str "add", .tup [.str "num", .int 1], .tup [.str "of", .str "a"]]], .tup [.str "add", .tup [.str "num", .int 1], .tup [.str "not", .tup [.str "num", .int 1]]]],
  .tup [.str "mul", .tup [.str "add", .tup [.str "add", .tup [.str "num", .int 1], .tup [.str "num", .int 1]], .tup [.str "add", .tup [.str "num", .int 1], .tup [.str "of", .str "a"]]], .tup [.str "sub", .tup [.str "not", .tup [.str "num", .int 1]], .tup [.str "not", .tup [.str "num", .int 1]]]],
  .tup [.str "mul", .tup [.str "sub", .tup [.str "not", .tup [.str "num", .int 1]], .tup [.str "not", .tup [.str "num", .int 1]]], .tup [.str "add", .tup [.str "add", .tup [.str "num", .int 1], .tup [.str "num", .int 1]], .tup [.str "add", .tup [.str "num", .int 1], .tup [.str "of", .str "a"]]]],
  .tup [.str "not", .tup [.str "not", .tup [.str "not", .tup [.str "not", .tup [.str "num", .int 1]]]]],
  .tup [.str "not", .tup [.str "not", .tup [.str "not", .tup [.str "not", .tup [.str "not", .tup [.str "num", .int 1]]]]]],
  .tup [.str "add", .tup [.str "num", .int 1], .tup [.str "not", .tup [.str "not", .tup [.str "not", .tup [.str "not", .tup [.str "num", .int 1]]]]]]]
theorem bnds_ok : BNDS.all (okB 8 3) = true := by decide +kernel
theorem bounds_spec (n : Nat) (hn : 1 ≤ n) : fn n 16 [] = .ok (.o (.lst BNDS)) [] := by
  obtain ⟨n, rfl⟩ : ∃ m, n = m + 1 := ⟨n - 1, by omega⟩
  rw [fn_succ]
  simp! [step, m_law_bounds, c_law_bounds, dv_addL, BNDS]
def NAMED : List D := [.str "", .str "A", .str "aB", .str "a1", .str "a b", .str " a", .str "a ", .str "a/2"] ++ [.str "abcdefghi", .str "abcdefgh", .non, .int 1, .bl true, .tup [], .lst [], .dic [], .tup [.str "a"], .lst [.str "a"], .str "z", .str "e-f"]
theorem named_ok : NAMED.all (okB 3 3) = true := by decide +kernel
theorem lang_ok : (LANG.map D.str).all (okB 1 3) = true := by decide +kernel
theorem w30_ok : (W30.map D.str).all (okB 1 3) = true := by decide +kernel
def P4 : List Str := ["a", "lets", "num", "zzzzzzzz"]
theorem p4_ok : ∀ z ∈ P4, (PyData.str z).canLay0 = true ∧ z.length ≤ 1000 := by
  intro z hz
  simp only [P4, List.mem_cons, List.not_mem_nil, or_false] at hz
  rcases hz with rfl | rfl | rfl | rfl <;> exact ⟨by decide +kernel, by decide +kernel⟩
theorem all_ok {l : List D} {n : Nat} (h : l.all (okB n 3) = true) : ∀ d ∈ l, Ok 3 d := fun d hd => okB_ok n 3 d (List.all_eq_true.mp h d hd)
def gT : Nat → Nat
  | 0 => 3
  | n + 1 => 2 * gT n + 2
theorem gT_le : ∀ n, n ≤ 3 → 3 ≤ gT n ∧ gT n ≤ 38
  | 0, _ => by decide
  | 1, _ => by decide
  | 2, _ => by decide
  | 3, _ => by decide
  | n + 4, h => by omega
section
variable (ns : List Int) (hl : ns.length ≤ 63)
include hl
theorem law_m : Wp (fn 200 17 [.fz (scD ns)]) fun v _ => v = .v (.bl true) := by
  have s0 := st0 ns
  obtain ⟨L, l1, l2, l3, l4⟩ := names_spec ns hl 0 (0, none) (by decide) (by decide)
  have l5 := l4 199 (by decide)
  have la : addD (.lst (LANG.map D.str)) (.lst (L.map D.str)) = .ob (.lst (LANG.map D.str ++ L.map D.str)) := dv_addL (by rw [sizeLine_eq, List.length_map, List.length_map, l1]; decide)
  obtain ⟨T1, hT1⟩ : ∃ T1, T1 = LANG.map D.str ++ L.map D.str := ⟨_, rfl⟩
  rw [← hT1] at la
  have lT1 : T1.length ≤ 100 := by rw [hT1, List.length_append, List.length_map, List.length_map, l1]; decide
  have T1o : ∀ d ∈ T1, Ok 3 d := by
    intro d hd
    rw [hT1] at hd
    rcases List.mem_append.mp hd with hd | hd
    · exact all_ok lang_ok d hd
    · obtain ⟨z, hz, rfl⟩ := List.mem_map.mp hd
      exact all_ok w30_ok _ (List.mem_map.mpr ⟨z, l2 z hz, rfl⟩)
  obtain ⟨T2, hT2⟩ : ∃ T2, T2 = T1 ++ [D.str "", .str "A", .str "aB", .str "a1", .str "a b", .str " a", .str "a ", .str "a/2"] := ⟨_, rfl⟩
  have lb : addD (.lst T1) (.lst [D.str "", .str "A", .str "aB", .str "a1", .str "a b", .str " a", .str "a ", .str "a/2"]) = .ob (.lst T2) := by rw [hT2]; exact dv_addL (by rw [sizeLine_eq]; simp only [List.length_cons, List.length_nil]; omega)
  obtain ⟨T3, hT3⟩ : ∃ T3, T3 = T2 ++ [D.str "abcdefghi", .str "abcdefgh", .non, .int 1, .bl true, .tup [], .lst [], .dic [], .tup [.str "a"], .lst [.str "a"], .str "z", .str "e-f"] := ⟨_, rfl⟩
  have lc : addD (.lst T2) (.lst [D.str "abcdefghi", .str "abcdefgh", .non, .int 1, .bl true, .tup [], .lst [], .dic [], .tup [.str "a"], .lst [.str "a"], .str "z", .str "e-f"]) = .ob (.lst T3) := by rw [hT3]; exact dv_addL (by rw [sizeLine_eq, hT2, List.length_append]; simp only [List.length_cons, List.length_nil]; omega)
  have T3o : ∀ d ∈ T3, Ok 3 d := by
    intro d hd
    rw [hT3, hT2, List.append_assoc] at hd
    rcases List.mem_append.mp hd with hd | hd
    · exact T1o d hd
    · exact all_ok named_ok d hd
  have bo := bounds_spec 199 (by decide)
  rw [fn_succ]
  simp! [step, m_law, c_law, keys2, s0, words_add, words_splitD, l5, la, lb, lc]
  generalize hX : forL _ _ _ = X
  obtain ⟨e', rfl, t4, t5, rfl⟩ := for_inv hX (fun i e => ∃ (t4 t5 : Scr), e = [.fz (scD ns), .ow (.dic (stt ns (0 + 1) (0, none))), .fz (.str WORDS), .fz (.lst T3), t4.1, t5.1, .un, .un, .un])
    ⟨⟨.un, rfl⟩, ⟨.un, rfl⟩, rfl⟩ (by
      rintro i d e hi ⟨t4, t5, rfl⟩
      have ho := T3o d (List.mem_of_getElem? hi)
      have g1 := is_name_spec ho 199 (by decide)
      have g2 := law_name_spec ho 199 (by decide)
      simp! [g1, g2]
      exact ⟨⟨_, rfl⟩, ⟨_, rfl⟩, rfl⟩)
  simp! [bo, rg1_int (show small62 6 = true by decide)]
  generalize hX : compL _ _ _ _ _ _ = X
  obtain ⟨O, e', rfl, k1, ⟨hO, hOl⟩, ⟨hk1, hk12⟩, rfl⟩ := comp_inv hX (fun i zs e => ∃ (k : Int), ((∀ d ∈ zs, Ok 100 d) ∧ zs.length ≤ i) ∧ (0 ≤ k ∧ k ≤ 1 + i) ∧ e = [.fz (scD ns), .ow (.dic (stt ns k (0, none))), .fz (.str WORDS), .fz (.lst T3), t4.1, t5.1, .un, .un, .un])
    ⟨1, ⟨(fun d hd => by cases hd), by simp⟩, ⟨by omega, by omega⟩, rfl⟩ (by
      rintro i zs d e hi ⟨k, ⟨hz, hzl⟩, ⟨hk, hk2⟩, rfl⟩
      obtain ⟨rfl, hi2⟩ := range_at hi
      replace hi2 : i < 6 := hi2
      obtain ⟨r, r1, r2⟩ := odd_spec ns hl (m := 3) (d := .tup []) (.tup (by simp) (by simp)) (by decide) (by decide) k (0, none) hk (by omega)
      have r3 := r2 199 (by decide)
      simp! [r3, optL]
      refine ⟨k + 1, ⟨?_, by simp only [List.length_append, List.length_cons, List.length_nil]; omega⟩, ⟨by omega, by omega⟩, rfl⟩
      intro d hd
      rcases List.mem_append.mp hd with hd | hd
      · exact hz d hd
      · simp only [List.mem_singleton] at hd; subst hd; exact r1.up (by decide))
  have hOl6 : O.length ≤ 6 := hOl
  have hOs : O.length ≤ 16777216 := by omega
  obtain ⟨S0, hS0⟩ : ∃ S0, S0 = BNDS ++ O := ⟨_, rfl⟩
  have ab : addD (.lst BNDS) (.lst O) = .ob (.lst S0) := by rw [hS0]; exact dv_addL (by rw [sizeLine_eq, show BNDS.length = 6 from rfl]; omega)
  have S0o : ∀ d ∈ S0, Ok 100 d := by
    intro d hd
    rw [hS0] at hd
    rcases List.mem_append.mp hd with hd | hd
    · exact (all_ok bnds_ok d hd).up (by decide)
    · exact hO d hd
  have S0l : S0.length ≤ 12 := by rw [hS0, List.length_append, show BNDS.length = 6 from rfl]; omega
  have hk17 : k1 ≤ 7 := by
    have := rangeD_length 0 6
    omega
  simp! [hOs, ab, rg1_int (show small62 8 = true by decide)]
  generalize hX : forL _ _ _ = X
  obtain ⟨e', rfl, -, k2, l2', S, u4, u7, u8, -, ⟨hS, hSl⟩, rfl⟩ := for_inv hX (fun i e => i ≤ 8 ∧ ∃ (k : Int) (l : LX) (S : List D) (u4 u7 u8 : Scr), (0 ≤ k ∧ k ≤ 7 + 200 * i) ∧ ((∀ d ∈ S, Ok 100 d) ∧ S.length ≤ 12 + 4 * i) ∧ e = [.fz (scD ns), .ow (.dic (stt ns k l)), .fz (.str WORDS), .fz (.lst T3), u4.1, t5.1, .ow (.lst S), u7.1, u8.1])
    ⟨by decide, k1, (0, none), S0, t4, ⟨.un, rfl⟩, ⟨.un, rfl⟩, ⟨by omega, by omega⟩, ⟨S0o, by omega⟩, rfl⟩ (by
      rintro i d e hi ⟨hi8, k, l, S, u4, u7, u8, ⟨hk, hk2⟩, ⟨hS, hSl⟩, rfl⟩
      obtain ⟨rfl, hi2⟩ := range_at hi
      replace hi2 : i < 8 := hi2
      obtain ⟨s, k', l', a1, a2, a3, a4, a5⟩ := sum_spec ns hl P4 (by decide) (by decide) p4_ok k l hk (by omega)
      have a6 := a5 199 (by decide)
      simp only [P4, List.map_cons, List.map_nil] at a6
      simp! [a6, rg1_int (show small62 4 = true by decide)]
      generalize hX : forL _ _ _ = X
      obtain ⟨e', rfl, -, k3, S', d', v8, ⟨hk3, hk32⟩, ⟨hS', hSl'⟩, -, rfl⟩ := for_inv hX (fun n e => n ≤ 4 ∧ ∃ (k : Int) (S' : List D) (d : D) (v8 : Scr), (0 ≤ k ∧ k ≤ k' + 16 * n) ∧ ((∀ d ∈ S', Ok 100 d) ∧ S'.length ≤ S.length + n) ∧ Ok (gT n) d ∧ e = [.fz (scD ns), .ow (.dic (stt ns k l')), .fz (.str WORDS), .fz (.lst T3), .fz d, t5.1, .ow (.lst S'), .fz (.int (i : Int)), v8.1])
        ⟨by decide, k', S, s.d, u8, ⟨by omega, by omega⟩, ⟨hS, by omega⟩, sm_ok s a1, rfl⟩ (by
          rintro n d e hn ⟨hn4, k3, S', d, v8, ⟨hk3, hk32⟩, ⟨hS', hSl'⟩, hd, rfl⟩
          obtain ⟨rfl, hn2⟩ := range_at hn
          replace hn2 : n < 4 := hn2
          obtain ⟨g1, g2⟩ := gT_le n (by omega)
          obtain ⟨r, k4, r1, r2, r3, r4⟩ := bent_spec ns hl g1 (by omega) 7 hd 0 (by decide) (by decide) k3 l' hk3 (by omega)
          have r5 := r4 199 (by decide)
          have lS : S'.length < 16777216 := by omega
          simp! [dv_app, lS, r5]
          refine ⟨by omega, k4, _, _, ⟨_, rfl⟩, ⟨by omega, by omega⟩, ⟨?_, by simp only [List.length_append, List.length_cons, List.length_nil]; omega⟩, r1, rfl⟩
          intro x hx
          rcases List.mem_append.mp hx with hx | hx
          · exact hS' x hx
          · simp only [List.mem_singleton] at hx; subst hx; exact hd.up (by omega))
      have hn4 := rangeD_length 0 4
      simp!
      exact ⟨by omega, k3, l', S', ⟨_, rfl⟩, ⟨_, rfl⟩, v8, ⟨by omega, by omega⟩, ⟨hS', by omega⟩, rfl⟩)
  simp!
  generalize hX : forL _ _ _ = X
  obtain ⟨e', rfl, w4, w5, rfl⟩ := for_inv hX (fun i e => ∃ (w4 w5 : Scr), e = [.fz (scD ns), .ow (.dic (stt ns k2 l2')), .fz (.str WORDS), .fz (.lst T3), w4.1, w5.1, .fz (.lst S), u7.1, u8.1])
    ⟨u4, t5, rfl⟩ (by
      rintro i d e hi ⟨w4, w5, rfl⟩
      have ho := hS d (List.mem_of_getElem? hi)
      have g1 := (is_sum_spec ho 199 (by decide)).eq
      have g2 := law_is_sum_spec ho 199 (by decide)
      simp! [g1, g2]
      exact ⟨⟨_, rfl⟩, ⟨_, rfl⟩, rfl⟩)
  simp!
end
theorem law_true : ∀ ns : List Int, ns.length ≤ 63 → ∃ outs, fn 200 17 [.fz (.scr (ns.map D.int))] = .ok (.v (.bl true)) outs := by
  intro ns hl
  obtain ⟨v, o, h, rfl⟩ := law_m ns hl
  exact ⟨o, h⟩
end K01

open PySem PySem.W PyProof.Rows
set_option maxRecDepth 100000 in
set_option maxHeartbeats 0 in
theorem PySem.Challenge.cw_leastrecord_k01_names_and_sums_holds : PySem.Challenge.rw_leastrecord_k01_names_and_sums.Holds := by
  w_on; o_law; k_head; (case hw => w_witness2)
  k_fill
  refine K01.walk (l := PySem.Challenge.rw_leastrecord_k01_names_and_sums) rfl rfl (fun w h Y => PySem.W.kIn_of Y) ?F
  case F =>
    intro w mg fa h KX G hmg
    refine' K01.all_mk KX G hmg K01.law_true ?a0 ?l0 ?c0 ?k0 ?a1 ?l1 ?c1 ?k1 ?a2 ?l2 ?c2 ?k2 ?a3 ?l3 ?c3 ?k3 ?a4 ?l4 ?c4 ?k4 ?a5 ?l5 ?c5 ?k5 ?a6 ?l6 ?c6 ?k6 ?a7 ?l7 ?c7 ?k7 ?a8 ?l8 ?c8 ?k8 ?a9 ?l9 ?c9 ?k9 ?a10 ?l10 ?c10 ?k10 ?a11 ?l11 ?c11 ?k11 ?a12 ?l12 ?c12 ?k12 ?a13 ?l13 ?c13 ?k13 ?a14 ?l14 ?c14 ?k14 ?a15 ?l15 ?c15 ?k15 ?a16 ?l16 ?c16 ?k16 ?a17 ?l17 ?c17 ?k17 ?e0 ?e1 ?e2 ?e3 ?u3 ?w3 ?e4 ?u4 ?w4 ?e5 ?e6 ?z0 ?z1 ?z2 ?z3 ?z4 ?z5 ?z6 ?z7 ?z8 ?z9
    (case a0 => k_is); (case l0 => k_is); (case c0 => k_is); (case k0 => k_is); (case a1 => k_is); (case l1 => k_is)
    (case c1 => k_is); (case k1 => k_is); (case a2 => k_is); (case l2 => k_is); (case c2 => k_is); (case k2 => k_is)
    (case a3 => k_is); (case l3 => k_is); (case c3 => k_is); (case k3 => k_is); (case a4 => k_is); (case l4 => k_is)
    (case c4 => k_is); (case k4 => k_is); (case a5 => k_is); (case l5 => k_is); (case c5 => k_is); (case k5 => k_is)
    (case a6 => k_is); (case l6 => k_is); (case c6 => k_is); (case k6 => k_is); (case a7 => k_is); (case l7 => k_is)
    (case c7 => k_is); (case k7 => k_is); (case a8 => k_is); (case l8 => k_is); (case c8 => k_is); (case k8 => k_is)
    (case a9 => k_is); (case l9 => k_is); (case c9 => k_is); (case k9 => k_is); (case a10 => k_is); (case l10 => k_is)
    (case c10 => k_is); (case k10 => k_is); (case a11 => k_is); (case l11 => k_is); (case c11 => k_is); (case k11 => k_is)
    (case a12 => k_is); (case l12 => k_is); (case c12 => k_is); (case k12 => k_is); (case a13 => k_is); (case l13 => k_is)
    (case c13 => k_is); (case k13 => k_is); (case a14 => k_is); (case l14 => k_is); (case c14 => k_is); (case k14 => k_is)
    (case a15 => k_is); (case l15 => k_is); (case c15 => k_is); (case k15 => k_is); (case a16 => k_is); (case l16 => k_is)
    (case c16 => k_is); (case k16 => k_is); (case a17 => k_is); (case l17 => k_is); (case c17 => k_is); (case k17 => k_is)
    (case e0 => k_is); (case e1 => k_is); (case e2 => k_is); (case e3 => k_is); (case u3 => k_is); (case w3 => rfl)
    (case e4 => k_is); (case u4 => k_is); (case w4 => rfl); (case e5 => k_is); (case e6 => k_is); (case z0 => k_is)
    (case z1 => k_is); (case z2 => k_is); (case z3 => k_is); (case z4 => k_is); (case z5 => k_is); (case z6 => k_is)
    (case z7 => k_is); (case z8 => k_is); (case z9 => k_is)

