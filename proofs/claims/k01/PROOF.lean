import PyProof.Rows.All
import Wide.All
import OpenK.AllK
import Wide.FinOn
import HandS.ForMost
import HandS.ForExc
import HandS.TupAny
import HandS.TupMul
import HandS.Conv
import HandS.Wide
import HandS.Star
import HandS.CallSlots
import HandS.Zip
import HandS.Rev
import HandS.Comp
import HandS.Dict
import HandS.IsInst
import HandS.TryMany
import HandS.ExcIs
import KE.GoesEnum
import HandS.Steps
import HandS.SortInts
import HandS.WordsDict
import HandS.Small
import KE.KIndexOf
import PyProof.ExcBaseAll.ValueError
import KE.KSuper
import HandS.Nested
import HandS.More
import HandS.DictComp
import HandS.SetFor
import HandS.FltList
import HandS.Property
import HandS.Deep
import HandS.Flow
import KE.KTupSum
import PySem.Challenge.RW_hushsheets_k01_sheets_and_their_wires
set_option Elab.async false
set_option linter.all false
set_option maxRecDepth 100000
set_option maxHeartbeats 4000000
namespace MX
open PySem L2 PySem.Spec PyProof.Rows
section
variable {X : Cx} {pos : Pos} {es : List Expr}
def tTupN (t : TA) : TE := fun σ H Q => t σ H fun xs H1 => xs.length ≤ sizeLine ∧ ∀ p o, H1 p = none → o.dict = none → Q (.ref p) (upd H1 p (.frz o (.tup xs)))
theorem pe_tupN {x1} {t : TA} (h : PA X es t) : PE X (.Tuple es x1 pos) (tTupN t) := by
  refine ⟨fun pins s σ H Q I hq => ?_⟩
  refine wpAny_Tuple_spliced (thn (h.run pos pins s σ H _ I hq) fun us s1 ⟨xs, H1, I1, r, z, q⟩ => ⟨by rw [← r.length]; exact z, ?_⟩)
  have hf : H1 s1.heap.objs.size = none := I1.hok.fresh (Nat.le_refl _)
  refine ⟨.ref s1.heap.objs.size, upd H1 s1.heap.objs.size (.frz { cls := .type "tuple", data := .seq us.toArray } (.tup xs)), I1.laid (t' := s1.toks) (fun b u e => Heap.get?_push_of_some _ e) (Nat.le_refl _) ?_, rfl, q _ _ hf rfl⟩
  exact ⟨Heap.get?_push_size _ rfl, z, us, r, ⟨_, Heap.get?_push_size _ rfl, rfl, _, rfl⟩⟩
def rTupOf (K : PySem.W.Frag) : List V → Hp → VK → Prop := fun xs H Q => ∃ p ys, xs = [.ref p] ∧ ((SqL K H p ys ∧ ∀ l o, H l = none → o.dict = none → Q (.ref l) (upd H l (.frz o (.tup ys)))) ∨ (SqT K H p ys ∧ Q (.ref p) H))
theorem call_tupleN : CallR X (.type "tuple") (rTupOf X.K) := by
  intro pins s σ H xs us Q I r h
  obtain ⟨p, ys, rfl, h⟩ := h
  obtain ⟨u, rfl, rx⟩ := vals1 r
  cases rx
  rcases h with ⟨hq, q⟩ | ⟨hq, q⟩
  · obtain ⟨its, r', pl, hz⟩ := I.list hq
    have hlen := r'.length
    refine call_tuple_list pl.isList (fun h' kp => ?_) (by simp only [List.size_toArray] <;> omega)
    have I1 : Inv X pins σ H { s with heap := h' } := I.kept (t' := s.toks) kp
    have I2 : Inv X pins σ (upd H h'.objs.size (.frz { cls := .type "tuple", data := .seq its.toArray } (.tup ys))) { s with heap := h'.push { cls := .type "tuple", data := .seq its.toArray } } :=
      I1.laid (t' := s.toks) (fun b o e => Heap.get?_push_of_some _ e) (Nat.le_refl _) ⟨Heap.get?_push_size _ rfl, hz, its, r', IsTup.new _ _⟩
    exact ⟨.ref h'.objs.size, _, I2, rfl, q _ _ (I1.hok.fresh (Nat.le_refl _)) rfl⟩
  · obtain ⟨its, r', pl, hz⟩ := I.tuple hq
    exact call_tuple_same pl ⟨.ref p, H, I, rfl, q⟩
def rCatN (K : PySem.W.Frag) : R2 := fun x y H Q => ∃ a b xs ys, x = .ref a ∧ y = .ref b ∧ SqT K H a xs ∧ SqT K H b ys ∧ xs.length + ys.length ≤ sizeLine ∧
  (xs = [] → Q (.ref b) H) ∧ (xs ≠ [] → ys = [] → Q (.ref a) H) ∧ (xs ≠ [] → ys ≠ [] → ∀ p o, H p = none → o.dict = none → Q (.ref p) (upd H p (.frz o (.tup (xs ++ ys)))))
theorem op_catN : OpR X (binaryOp .Add) (rCatN X.K) := by
  intro pins s σ H x y v u Q I rx ry h
  obtain ⟨a, b, xs, ys, rfl, rfl, ha, hb, hz, q0, q1, q2⟩ := h
  by_cases hx : xs = []
  · exact op_catA pins s σ H _ _ v u Q I rx ry ⟨a, b, xs, ys, rfl, rfl, ha, hb, hz, q0, q1, fun z => absurd hx z⟩
  · by_cases hy : ys = []
    · exact op_catA pins s σ H _ _ v u Q I rx ry ⟨a, b, xs, ys, rfl, rfl, ha, hb, hz, q0, q1, fun _ z => absurd hy z⟩
    · cases rx
      cases ry
      obtain ⟨its, r1, p1, _⟩ := I.tuple ha
      obtain ⟨its2, r2, p2, _⟩ := I.tuple hb
      refine HT.cat_tup p1 p2 (fun z => hx (r1.nil_iff.mp z)) (fun z => absurd (r2.nil_iff.mp z) hy) (fun z => ?_) (by rw [← r1.length, ← r2.length]; exact hz)
      refine ⟨.ref s.heap.objs.size, _, I.laid (t' := s.toks) (o := .frz _ (.tup (xs ++ ys))) (fun b ob q => Heap.get?_push_of_some _ q) (Nat.le_refl _) ⟨Heap.get?_push_size _ rfl, by rw [List.length_append]; exact hz, _, r1.append r2, IsTup.new _ _⟩, rfl, q2 hx hy _ _ (I.hok.fresh (Nat.le_refl _)) rfl⟩
def rSlN (K : PySem.W.Frag) : V → Option Int → Option Int → Hp → VK → Prop := fun x lo hi H Q => ∃ a xs, x = .ref a ∧ SqT K H a xs ∧
  (HT.sIx xs.length 0 lo = 0 ∧ HT.sIx xs.length xs.length hi = xs.length → Q (.ref a) H) ∧ (¬ (HT.sIx xs.length 0 lo = 0 ∧ HT.sIx xs.length xs.length hi = xs.length) → ∀ p o, H p = none → o.dict = none → Q (.ref p) (upd H p (.frz o (.tup (cutV xs lo hi)))))
theorem sl_tupN : SlR X (rSlN X.K) := by
  intro pins s σ H x v vl vu lo hi sl Q I rx hs pl pu h
  obtain ⟨a, xs, rfl, hx, q1, q2⟩ := h
  by_cases hw : HT.sIx xs.length 0 lo = 0 ∧ HT.sIx xs.length xs.length hi = xs.length
  · exact sl_tupA pins s σ H _ v vl vu lo hi sl Q I rx hs pl pu ⟨a, xs, rfl, hx, q1, fun z => absurd hw z⟩
  · cases rx
    obtain ⟨its, r, ht, hz⟩ := I.tuple hx
    have hlen : its.toArray.size = xs.length := by rw [List.size_toArray]; exact r.length.symm
    refine ⟨"tuple", _, PyProof.Rows.slot_tuple_getitem.lookup, ht.typeIs, ?_⟩
    refine HT.getItem_tuple_cut ht hs pl pu (by rw [hlen]; exact hw) ?_ (by rw [hlen]; exact hz)
    rw [hlen]
    refine ⟨.ref s.heap.objs.size, _, I.laid (t' := s.toks) (o := .frz _ (.tup (cutV xs lo hi))) (fun b ob q => Heap.get?_push_of_some _ q) (Nat.le_refl _) ⟨Heap.get?_push_size _ rfl, Nat.le_trans (cutV_length xs lo hi) hz, _, (r.drop (HT.sIx xs.length 0 lo)).take (HT.sIx xs.length xs.length hi - HT.sIx xs.length 0 lo), IsTup.new _ _⟩, rfl, q2 hw _ _ (I.hok.fresh (Nat.le_refl _)) rfl⟩
theorem tuple_mul1 (l : Addr) (items : Array Value) (n : Nat) (dd : Option Addr) (sl : Array (Option Value)) (x : Int) (u : Tok) (c0 : (decide (x < -(2 ^ 63)) || decide (x ≥ 2 ^ 63)) = false) (c1 : (items.isEmpty || x == 1) = true) :
    Meets (Builtin.«tuple.__mul__» ⟨[.ref l, .int x u], []⟩) (fun _ R s => s.heap.get? l = some { cls := .type "tuple", dict := dd, data := .seq items n, slots := sl } ∧ R (.ok (.ret (Value.ref l))) s) :=
  .of_wp fun prog w A R s h => by
    obtain ⟨hp, g, d, tk, os⟩ := s
    obtain ⟨hl, h⟩ := h
    have f1 := AutoSeq1.idx_int
    wp_walk using wpAny_loadPart' hl
    repeat (first
      | (refine wpAny_ite_false (decide_eq_false (by rw [c0]; exact Bool.false_ne_true)) ?_; wp_walk using wpAny_loadPart' hl)
      | (refine wpAny_ite_true (decide_eq_true c1) ?_; wp_walk using wpAny_loadPart' hl))
    exact ⟨_, rfl, h⟩
theorem tuple_mul0 (l : Addr) (items : Array Value) (n : Nat) (dd : Option Addr) (sl : Array (Option Value)) (x : Int) (u : Tok) (c0 : (decide (x < -(2 ^ 63)) || decide (x ≥ 2 ^ 63)) = false) (c1 : (items.isEmpty || x == 1) = false) (c2 : (decide (x ≤ 0) || items.isEmpty) = true) :
    Meets (Builtin.«tuple.__mul__» ⟨[.ref l, .int x u], []⟩) (fun _ R s => s.heap.get? l = some { cls := .type "tuple", dict := dd, data := .seq items n, slots := sl } ∧
      R (.ok (.ret (Value.ref s.heap.objs.size))) { s with heap := s.heap.push { cls := Value.type "tuple", data := Data.seq #[] }, toks := s.toks }) :=
  .of_wp fun prog w A R s h => by
    obtain ⟨hp, g, d, tk, os⟩ := s
    obtain ⟨hl, h⟩ := h
    have f1 := AutoSeq1.idx_int
    wp_walk using wpAny_loadPart' hl
    repeat (first
      | (refine wpAny_ite_false (decide_eq_false (by rw [c0]; exact Bool.false_ne_true)) ?_; wp_walk using wpAny_loadPart' hl)
      | (refine wpAny_ite_false (decide_eq_false (by rw [c1]; exact Bool.false_ne_true)) ?_; wp_walk using wpAny_loadPart' hl)
      | (refine wpAny_ite_true (decide_eq_true c2) ?_; wp_walk using wpAny_loadPart' hl))
    exact ⟨_, rfl, h⟩
def rRepN (K : PySem.W.Frag) : R2 := fun x y H Q => ∃ l k xs, x = .ref l ∧ y = .int k ∧ SqT K H l xs ∧ -(2 ^ 63) ≤ k ∧ k ≤ 1000 ∧ xs.length ≤ 1000 ∧ (xs = [] ∨ k = 1 → Q (.ref l) H) ∧ (¬ (xs = [] ∨ k = 1) → ∀ p o, H p = none → o.dict = none → Q (.ref p) (upd H p (.frz o (.tup (List.replicate k.toNat xs).flatten))))
theorem op_repN : OpR X (binaryOp .Mult) (rRepN X.K) := by
  intro pins s σ H x y v u Q I rx ry h
  obtain ⟨l, k, xs, rfl, rfl, hT, h1, h2, hz, q1, q2⟩ := h
  cases rx
  obtain ⟨t, rfl⟩ := ry
  obtain ⟨its, r, ⟨⟨cls, dd, data, sl⟩, ho, hc, n, hd⟩, hs⟩ := I.tuple hT
  simp only at hc hd
  subst hc hd
  have hle : its.length = xs.length := r.length.symm
  have c0 : (decide (k < -(2 ^ 63)) || decide (k ≥ 2 ^ 63)) = false := by
    rw [decide_eq_false (by omega), decide_eq_false (by omega)] <;> rfl
  by_cases hsame : xs = [] ∨ k = 1
  · have c1 : (its.toArray.isEmpty || k == 1) = true := by
      rcases hsame with e | e
      · have : its = [] := List.eq_nil_of_length_eq_zero (by rw [hle, e]; rfl)
        subst this; rfl
      · rw [e, beq_self_eq_true, Bool.or_true]
    refine wpAny_binaryOp_repeat_ref (T := "tuple") (U := "int") (by decide) ⟨_, ho, rfl⟩ (fun s' => typeIs_int s' k t) noFill_tuple_mul F.fills_int_mul F.slot_int_rmul repeat_tuple F.slot_int_index.lookup
      (call_meets F.slot_int_rmul (typeIs_int s k t) F.entry_int_rmul (F.args_int_rmul_2 _ _) (int_rmul_tuple k t l its.toArray n dd sl)
        ⟨ho, rfl, ⟨_, ho, rfl⟩, call_meets F.slot_tuple_mul ⟨_, ho, rfl⟩ F.entry_tuple_mul (F.args_tuple_mul_2 _ _) (tuple_mul1 l its.toArray n dd sl k t c0 c1) ⟨ho, ?_⟩⟩)
    exact ⟨.ref l, H, I, rfl, q1 hsame⟩
  · have hne : xs ≠ [] := fun e => hsame (.inl e)
    have hk1 : k ≠ 1 := fun e => hsame (.inr e)
    have hn : its ≠ [] := fun e => hne (by
      rw [e] at hle
      exact List.eq_nil_of_length_eq_zero hle.symm)
    have hi : its.toArray.isEmpty = false := by
      cases its with
      | nil => exact absurd rfl hn
      | cons a b => rfl
    have c1 : (its.toArray.isEmpty || k == 1) = false := by
      rw [hi, Bool.false_or]
      exact beq_eq_false_iff_ne.mpr hk1
    by_cases hk0 : k ≤ 0
    · have c2 : (decide (k ≤ 0) || its.toArray.isEmpty) = true := by rw [decide_eq_true hk0]; rfl
      refine wpAny_binaryOp_repeat_ref (T := "tuple") (U := "int") (by decide) ⟨_, ho, rfl⟩ (fun s' => typeIs_int s' k t) noFill_tuple_mul F.fills_int_mul F.slot_int_rmul repeat_tuple F.slot_int_index.lookup
        (call_meets F.slot_int_rmul (typeIs_int s k t) F.entry_int_rmul (F.args_int_rmul_2 _ _) (int_rmul_tuple k t l its.toArray n dd sl)
          ⟨ho, rfl, ⟨_, ho, rfl⟩, call_meets F.slot_tuple_mul ⟨_, ho, rfl⟩ F.entry_tuple_mul (F.args_tuple_mul_2 _ _) (tuple_mul0 l its.toArray n dd sl k t c0 c1 c2) ⟨ho, ?_⟩⟩)
      have e0 : (List.replicate k.toNat xs).flatten = [] := by
        rw [Int.toNat_of_nonpos hk0]; rfl
      have q3 := q2 hsame
      rw [e0] at q3
      refine ⟨.ref s.heap.objs.size, _, I.laid (t' := s.toks) (o := .frz { cls := .type "tuple", data := .seq #[] } (.tup [])) (fun b ob q => Heap.get?_push_of_some _ q) (Nat.le_refl _) ?_, rfl, q3 _ _ (I.hok.fresh (Nat.le_refl _)) rfl⟩
      exact ⟨Heap.get?_push_size _ rfl, by show 0 ≤ _; exact Nat.zero_le _, [], .nil, IsTup.new _ _⟩
    · have hsz0 : its.toArray.size = xs.length := by rw [List.size_toArray, hle]
      have hm : ((its.toArray.size : Nat) : Int) * k ≤ 1000000 := by
        rw [hsz0]
        have a1 : ((xs.length : Nat) : Int) * k ≤ 1000 * k := Int.mul_le_mul_of_nonneg_right (by omega) (by omega)
        omega
      have flen : (List.replicate k.toNat its).flatten.length ≤ sizeLine := by
        rw [PyProof.Rows.lm_len_rep_flat, hle, sizeLine_eq]
        have a1 : k.toNat * xs.length ≤ 1000 * 1000 := Nat.mul_le_mul (by omega) hz
        omega
      have c2 : (decide (k ≤ 0) || its.toArray.isEmpty) = false := by
        rw [hi, Bool.or_false]
        exact decide_eq_false (by omega)
      have c4 : Builtin.Tuple.tupleTooMany (((its.toArray.size : Nat) : Int) * k) = false := by
        unfold Builtin.Tuple.tupleTooMany
        rw [sizeLine_eq]
        exact decide_eq_false (by omega)
      refine wpAny_binaryOp_repeat_ref (T := "tuple") (U := "int") (by decide) ⟨_, ho, rfl⟩ (fun s' => typeIs_int s' k t) noFill_tuple_mul F.fills_int_mul F.slot_int_rmul repeat_tuple F.slot_int_index.lookup
        (call_meets F.slot_int_rmul (typeIs_int s k t) F.entry_int_rmul (F.args_int_rmul_2 _ _) (int_rmul_tuple k t l its.toArray n dd sl)
          ⟨ho, rfl, ⟨_, ho, rfl⟩, call_meets F.slot_tuple_mul ⟨_, ho, rfl⟩ F.entry_tuple_mul (F.args_tuple_mul_2 _ _) (tuple_mulW l its.toArray n dd sl k t c0 c1 c2 (by omega) c4 (by rw [size_rep, List.size_toArray]; exact flen)) ⟨ho, ?_⟩⟩)
      rw [size_rep]
      refine ⟨.ref s.heap.objs.size, _, I.laid (t' := s.toks) (o := .frz { cls := .type "tuple", data := .seq (List.replicate k.toNat its).flatten.toArray } (.tup (List.replicate k.toNat xs).flatten)) (fun b ob q => Heap.get?_push_of_some _ q) (Nat.le_refl _) ?_, rfl, q2 hsame _ _ (I.hok.fresh (Nat.le_refl _)) rfl⟩
      exact ⟨Heap.get?_push_size _ rfl, by rw [PyProof.Rows.lm_len_rep_flat, sizeLine_eq]; have a1 : k.toNat * xs.length ≤ 1000 * 1000 := Nat.mul_le_mul (by omega) hz; omega, _, r.rep k.toNat, IsTup.new _ _⟩
def tTupRgN (te : L2.St → Hp → (Int → Int → Hp → Prop) → Prop) : TE := fun σ H Q => te σ H fun a b H1 => RgOk a b ∧ ∀ q o, H1 q = none → o.dict = none → Q (.ref q) (upd H1 q (.frz o (.tup (rgV a b))))
theorem pe_tupRgN {e : Expr} {te} {p pos : Pos} (hc : X.calm = true) (hg : Gl X "tuple") (hm : X.mg "tuple" = none) (he : PRg X e te) (na : starEach [e] X.env = (false, eval e X.env) :: starEach [] X.env := by rfl) : PE X (.Call (.Name "tuple" p) [e] [] pos) (tTupRgN te) := by
  refine ⟨fun pins s σ H Q I h => ?_⟩
  refine Call_ (ld_blt I hg hm boot_tuple (PyProof.Rows.callWith_type1 (args_cons (thn (he pins s σ H _ I h) fun x s1 ⟨r, a, b, t, u, v, H1, ex, hr, I1, ok, q⟩ => args_nil ?_) na) na))
  subst ex
  obtain ⟨b1, b2, b3, b4, b5⟩ := ok
  refine call_tuple_range (n := (b - a).toNat) (I1.ok.hd hc) hr (small_one b1 b2 b3 b4) (rangeSize_nat a b) b5 fun h' tk acc hk hi => ?_
  have I2 : Inv X pins σ H1 { s1 with heap := h', toks := tk } := I1.kept hk
  refine ⟨.ref h'.objs.size, upd H1 h'.objs.size (.frz _ (.tup (rgV a b))), I2.laid (t' := tk) (fun c o e => Heap.get?_push_of_some _ e) (Nat.le_refl _) ⟨Heap.get?_push_size _ rfl, ?_, acc.toList, vals_rg hi, ?_⟩, rfl, q _ _ (I2.hok.fresh (Nat.le_refl _)) rfl⟩
  · rw [rgV_length, sizeLine_eq]; omega
  · rw [Array.toArray_toList]; exact IsTup.new _ _
def TupAt (K : PySem.W.Frag) (H : Hp) (a : Addr) (vs : List V) : Prop :=
  (∃ o, H a = some (.frz o (.tup vs)) ∧ o.dict = none) ∨ ((∃ o, K.lookup a = some o ∧ o.cls = .type "tuple" ∧ o.dict = none) ∧ ∀ H' : Hp, SqT K H' a vs)
theorem TupAt.sq {K : PySem.W.Frag} {H : Hp} {a : Addr} {vs : List V} (h : TupAt K H a vs) : SqT K H a vs := by
  rcases h with ⟨o, h, _⟩ | ⟨_, h⟩
  · exact .inl (.inr ⟨o, h⟩)
  · exact h H
theorem TupAt.nd {H : Hp} {a : Addr} {vs : List V} {pins : List (Addr × Obj)} {σ : L2.St} {s : Shared} (h : TupAt X.K H a vs) (I : Inv X pins σ H s) : s.TypeIs (.ref a) "tuple" ∧ ∃ ob, s.heap.get? a = some ob ∧ ob.dict = none := by
  rcases h with ⟨o, h, hd⟩ | ⟨⟨o, hk, hc, hd⟩, _⟩
  · obtain ⟨hg, hz, its, r, o', ho, hc, _⟩ := I.hok a _ h
    exact ⟨⟨o', ho, hc⟩, o, hg, hd⟩
  · have hg := I.kIn a o hk
    exact ⟨⟨o, hg, hc⟩, o, hg, hd⟩
end
end MX
namespace MX
open PySem L2
structure Wd where
  K : PySem.W.Frag
  cl : String → Option Addr
  ex : Option (Nat × Addr) := none
inductive D where
  | non | bl (b : Bool) | int (i : Int) | str (s : Str) | ty (n : String) | cls (n : String)
  | adr (a : Addr) | tup (xs : List D) | lst (xs : List D) | dic (ks : List Key) (xs : List D) | obj (c : String) (ns : List Str) (xs : List D)
inductive O where
  | d (x : D) | lst (xs : List O) | dic (ks : List Key) (xs : List O) | obj (c : String) (ns : List Str) (xs : List O)
mutual
def O.fz : O → D
  | .d x => x
  | .lst xs => .lst (fzs xs)
  | .dic ks xs => .dic ks (fzs xs)
  | .obj c ns xs => .obj c ns (fzs xs)
def fzs : List O → List D
  | [] => []
  | o :: os => o.fz :: fzs os
end
theorem fzs_leaf : ∀ xs : List D, fzs (xs.map O.d) = xs
  | [] => rfl
  | x :: xs => by show x :: fzs (xs.map O.d) = x :: xs; rw [fzs_leaf xs]
mutual
def RD (W : Wd) (H : Hp) (Z : Addr → Prop) : D → V → Prop
  | .non, v => v = .non
  | .bl b, v => v = .bl b
  | .int i, v => v = .int i
  | .str s, v => v = .str s
  | .ty n, v => v = .ty n
  | .cls n, v => ∃ a, W.cl n = some a ∧ v = .ref a
  | .adr a, v => v = .ref a
  | .tup xs, v => ∃ a vs, v = .ref a ∧ TupAt W.K H a vs ∧ RDs W H Z xs vs
  | .lst xs, v => ∃ a vs, v = .ref a ∧ (Z a ∧ Rd H a (.lst vs)) ∧ RDs W H Z xs vs
  | .dic ks xs, v => ∃ (a : Addr) (kvs : List (Key × V)), v = .ref a ∧ Z a ∧ Rd H a (.dK kvs) ∧ kvs.map (·.1) = ks ∧ ks.Nodup ∧ RDs W H Z xs (kvs.map (·.2))
  | .obj c ns xs, v => ∃ (a C dx : Addr) (fs : List (Str × V)), v = .ref a ∧ Z a ∧ W.cl c = some C ∧ H a = some (.ins C dx fs) ∧ fs.map (·.1) = ns ∧ RDs W H Z xs (fs.map (·.2))
def RDs (W : Wd) (H : Hp) (Z : Addr → Prop) : List D → List V → Prop
  | [], vs => vs = []
  | d :: ds, vs => ∃ v r, vs = v :: r ∧ RD W H Z d v ∧ RDs W H Z ds r
end
mutual
def RO (W : Wd) (H : Hp) (Z : Addr → Prop) : O → V → List Addr → Prop
  | .d x, v, fp => RD W H Z x v ∧ fp = []
  | .lst xs, v, fp => ∃ a vs fp', v = .ref a ∧ H a = some (.lst vs) ∧ fp = a :: fp' ∧ ROs W H Z xs vs fp'
  | .dic ks xs, v, fp => ∃ (a : Addr) (kvs : List (Key × V)) (fp' : List Addr), v = .ref a ∧ H a = some (.dK kvs) ∧ kvs.map (·.1) = ks ∧ ks.Nodup ∧ fp = a :: fp' ∧ ROs W H Z xs (kvs.map (·.2)) fp'
  | .obj c ns xs, v, fp => ∃ (a C dx : Addr) (fs : List (Str × V)) (fp' : List Addr), v = .ref a ∧ W.cl c = some C ∧ H a = some (.ins C dx fs) ∧ fs.map (·.1) = ns ∧ fp = a :: fp' ∧ ROs W H Z xs (fs.map (·.2)) fp'
def ROs (W : Wd) (H : Hp) (Z : Addr → Prop) : List O → List V → List Addr → Prop
  | [], vs, fp => vs = [] ∧ fp = []
  | o :: os, vs, fp => ∃ v r f1 f2, vs = v :: r ∧ fp = f1 ++ f2 ∧ RO W H Z o v f1 ∧ ROs W H Z os r f2
end
def REnv (W : Wd) (H : Hp) (Z : Addr → Prop) : List (Option O) → St → List Addr → Prop
  | [], σ, fp => σ = [] ∧ fp = []
  | none :: e, σ, fp => ∃ x r, σ = x :: r ∧ REnv W H Z e r fp
  | some o :: e, σ, fp => ∃ v r f1 f2, σ = some v :: r ∧ fp = f1 ++ f2 ∧ RO W H Z o v f1 ∧ REnv W H Z e r f2
structure Kp (H : Hp) (Z : Addr → Prop) (H' : Hp) (Z' : Addr → Prop) : Prop where
  z : ∀ a, Z a → Z' a
  zk : ∀ a o, Z a → H a = some o → H' a = some o
  tp : ∀ a xs, H a = some (.tup xs) → H' a = some (.tup xs)
  fr : ∀ a o u, H a = some (.frz o u) → H' a = some (.frz o u)
theorem Kp.refl {H : Hp} {Z : Addr → Prop} : Kp H Z H Z := ⟨fun _ h => h, fun _ _ _ h => h, fun _ _ h => h, fun _ _ _ h => h⟩
theorem Kp.zmono {H : Hp} {Z Z' : Addr → Prop} (h : ∀ a, Z a → Z' a) : Kp H Z H Z' := ⟨h, fun _ _ _ h => h, fun _ _ h => h, fun _ _ _ h => h⟩
section
variable {W : Wd} {H H' : Hp} {Z Z' : Addr → Prop}
theorem Kp.rdZ (k : Kp H Z H' Z') {a : Addr} {u : HO} (z : Z a) (h : Rd H a u) : Rd H' a u := by
  rcases h with h | ⟨o, h⟩
  · exact .inl (k.zk _ _ z h)
  · exact .inr ⟨o, k.fr _ _ _ h⟩
mutual
theorem RD.keep (k : Kp H Z H' Z') : ∀ (d : D) (v : V), RD W H Z d v → RD W H' Z' d v
  | .non, _, h => h
  | .bl _, _, h => h
  | .int _, _, h => h
  | .str _, _, h => h
  | .ty _, _, h => h
  | .cls _, _, h => h
  | .adr _, _, h => h
  | .tup xs, v, ⟨a, vs, e, h, r⟩ => ⟨a, vs, e, h.imp (fun ⟨o, x, n⟩ => ⟨o, k.fr _ _ _ x, n⟩) id, RDs.keep k xs vs r⟩
  | .lst xs, v, ⟨a, vs, e, h, r⟩ => ⟨a, vs, e, ⟨k.z _ h.1, k.rdZ h.1 h.2⟩, RDs.keep k xs vs r⟩
  | .dic ks xs, v, ⟨a, kvs, e, z, h, r1, nd, r⟩ => ⟨a, kvs, e, k.z _ z, k.rdZ z h, r1, nd, RDs.keep k xs _ r⟩
  | .obj c ns xs, v, ⟨a, C, dx, fs, e, z, hc, h, r1, r⟩ => ⟨a, C, dx, fs, e, k.z _ z, hc, k.zk _ _ z h, r1, RDs.keep k xs _ r⟩
theorem RDs.keep (k : Kp H Z H' Z') : ∀ (ds : List D) (vs : List V), RDs W H Z ds vs → RDs W H' Z' ds vs
  | [], _, h => h
  | d :: ds, vs, ⟨v, r, e, h1, h2⟩ => ⟨v, r, e, RD.keep k d v h1, RDs.keep k ds r h2⟩
end
mutual
theorem RO.keep (k : Kp H Z H' Z') : ∀ (o : O) (v : V) (fp : List Addr), RO W H Z o v fp → (∀ a ∈ fp, ∀ u, H a = some u → H' a = some u) → RO W H' Z' o v fp
  | .d x, v, fp, ⟨h, e⟩, _ => ⟨h.keep k x v, e⟩
  | .lst xs, v, fp, ⟨a, vs, f', e, h, ef, r⟩, kf => ⟨a, vs, f', e, kf a (by rw [ef]; exact List.mem_cons_self) _ h, ef, ROs.keep k xs vs f' r fun b hb => kf b (by rw [ef]; exact List.mem_cons_of_mem _ hb)⟩
  | .dic ks xs, v, fp, ⟨a, kvs, f', e, h, e1, nd, ef, r⟩, kf => ⟨a, kvs, f', e, kf a (by rw [ef]; exact List.mem_cons_self) _ h, e1, nd, ef, ROs.keep k xs _ f' r fun b hb => kf b (by rw [ef]; exact List.mem_cons_of_mem _ hb)⟩
  | .obj c ns xs, v, fp, ⟨a, C, dx, fs, f', e, hc, h, e1, ef, r⟩, kf => ⟨a, C, dx, fs, f', e, hc, kf a (by rw [ef]; exact List.mem_cons_self) _ h, e1, ef, ROs.keep k xs _ f' r fun b hb => kf b (by rw [ef]; exact List.mem_cons_of_mem _ hb)⟩
theorem ROs.keep (k : Kp H Z H' Z') : ∀ (os : List O) (vs : List V) (fp : List Addr), ROs W H Z os vs fp → (∀ a ∈ fp, ∀ u, H a = some u → H' a = some u) → ROs W H' Z' os vs fp
  | [], _, _, h, _ => h
  | o :: os, vs, fp, ⟨v, r, f1, f2, e, ef, h1, h2⟩, kf =>
    ⟨v, r, f1, f2, e, ef, RO.keep k o v f1 h1 fun a ha => kf a (by rw [ef]; exact List.mem_append_left _ ha), ROs.keep k os r f2 h2 fun a ha => kf a (by rw [ef]; exact List.mem_append_right _ ha)⟩
end
theorem REnv.keep (k : Kp H Z H' Z') : ∀ (e : List (Option O)) (σ : St) (fp : List Addr), REnv W H Z e σ fp → (∀ a ∈ fp, ∀ u, H a = some u → H' a = some u) → REnv W H' Z' e σ fp
  | [], _, _, h, _ => h
  | none :: e, σ, fp, ⟨x, r, es, h⟩, kf => ⟨x, r, es, REnv.keep k e r fp h kf⟩
  | some o :: e, σ, fp, ⟨v, r, f1, f2, es, ef, h1, h2⟩, kf =>
    ⟨v, r, f1, f2, es, ef, RO.keep k o v f1 h1 fun a ha => kf a (by rw [ef]; exact List.mem_append_left _ ha), REnv.keep k e r f2 h2 fun a ha => kf a (by rw [ef]; exact List.mem_append_right _ ha)⟩
def Wd.un (W : Wd) : Wd := ⟨W.K, W.cl, none⟩
structure Wx (W W' : Wd) : Prop where
  k : W.K = W'.K
  c : W.cl = W'.cl
mutual
theorem RD.wx {W W' : Wd} (k : Wx W W') : ∀ (d : D) (v : V), RD W H Z d v → RD W' H Z d v
  | .non, _, h => h
  | .bl _, _, h => h
  | .int _, _, h => h
  | .str _, _, h => h
  | .ty _, _, h => h
  | .cls _, _, ⟨a, h, e⟩ => ⟨a, by rw [← k.c]; exact h, e⟩
  | .adr _, _, h => h
  | .tup xs, v, ⟨a, vs, e, h, r⟩ => ⟨a, vs, e, by rw [← k.k]; exact h, RDs.wx k xs vs r⟩
  | .lst xs, v, ⟨a, vs, e, h, r⟩ => ⟨a, vs, e, h, RDs.wx k xs vs r⟩
  | .dic ks xs, v, ⟨a, kvs, e, z, h, r1, nd, r⟩ => ⟨a, kvs, e, z, h, r1, nd, RDs.wx k xs _ r⟩
  | .obj c ns xs, v, ⟨a, C, dx, fs, e, z, hc, h, r1, r⟩ => ⟨a, C, dx, fs, e, z, by rw [← k.c]; exact hc, h, r1, RDs.wx k xs _ r⟩
theorem RDs.wx {W W' : Wd} (k : Wx W W') : ∀ (ds : List D) (vs : List V), RDs W H Z ds vs → RDs W' H Z ds vs
  | [], _, h => h
  | d :: ds, vs, ⟨v, r, e, h1, h2⟩ => ⟨v, r, e, RD.wx k d v h1, RDs.wx k ds r h2⟩
end
mutual
theorem RO.wx {W W' : Wd} (k : Wx W W') : ∀ (o : O) (v : V) (fp : List Addr), RO W H Z o v fp → RO W' H Z o v fp
  | .d x, v, fp, ⟨h, e⟩ => ⟨h.wx k x v, e⟩
  | .lst xs, v, fp, ⟨a, vs, f', e, h, ef, r⟩ => ⟨a, vs, f', e, h, ef, ROs.wx k xs vs f' r⟩
  | .dic ks xs, v, fp, ⟨a, kvs, f', e, h, e1, nd, ef, r⟩ => ⟨a, kvs, f', e, h, e1, nd, ef, ROs.wx k xs _ f' r⟩
  | .obj c ns xs, v, fp, ⟨a, C, dx, fs, f', e, hc, h, e1, ef, r⟩ => ⟨a, C, dx, fs, f', e, by rw [← k.c]; exact hc, h, e1, ef, ROs.wx k xs _ f' r⟩
theorem ROs.wx {W W' : Wd} (k : Wx W W') : ∀ (os : List O) (vs : List V) (fp : List Addr), ROs W H Z os vs fp → ROs W' H Z os vs fp
  | [], _, _, h => h
  | o :: os, vs, fp, ⟨v, r, f1, f2, e, ef, h1, h2⟩ => ⟨v, r, f1, f2, e, ef, RO.wx k o v f1 h1, ROs.wx k os r f2 h2⟩
end
theorem REnv.wx {W W' : Wd} (k : Wx W W') : ∀ (e : List (Option O)) (σ : St) (fp : List Addr), REnv W H Z e σ fp → REnv W' H Z e σ fp
  | [], _, _, h => h
  | none :: e, σ, fp, ⟨x, r, es, h⟩ => ⟨x, r, es, REnv.wx k e r fp h⟩
  | some o :: e, σ, fp, ⟨v, r, f1, f2, es, ef, h1, h2⟩ => ⟨v, r, f1, f2, es, ef, RO.wx k o v f1 h1, REnv.wx k e r f2 h2⟩
mutual
theorem RO.frozen (hz : ∀ a, Z a → Z' a) : ∀ (o : O) (v : V) (fp : List Addr), RO W H Z o v fp → (∀ a ∈ fp, Z' a) → RD W H Z' o.fz v
  | .d x, v, fp, ⟨h, _⟩, _ => h.keep (Kp.zmono hz) x v
  | .lst xs, v, fp, ⟨a, vs, f', e, h, ef, r⟩, kf => ⟨a, vs, e, ⟨kf a (by rw [ef]; exact List.mem_cons_self), .inl h⟩, ROs.frozen hz xs vs f' r fun b hb => kf b (by rw [ef]; exact List.mem_cons_of_mem _ hb)⟩
  | .dic ks xs, v, fp, ⟨a, kvs, f', e, h, e1, nd, ef, r⟩, kf => ⟨a, kvs, e, kf a (by rw [ef]; exact List.mem_cons_self), .inl h, e1, nd, ROs.frozen hz xs _ f' r fun b hb => kf b (by rw [ef]; exact List.mem_cons_of_mem _ hb)⟩
  | .obj c ns xs, v, fp, ⟨a, C, dx, fs, f', e, hc, h, e1, ef, r⟩, kf => ⟨a, C, dx, fs, e, kf a (by rw [ef]; exact List.mem_cons_self), hc, h, e1, ROs.frozen hz xs _ f' r fun b hb => kf b (by rw [ef]; exact List.mem_cons_of_mem _ hb)⟩
theorem ROs.frozen (hz : ∀ a, Z a → Z' a) : ∀ (os : List O) (vs : List V) (fp : List Addr), ROs W H Z os vs fp → (∀ a ∈ fp, Z' a) → RDs W H Z' (fzs os) vs
  | [], _, _, ⟨e, _⟩, _ => e
  | o :: os, vs, fp, ⟨v, r, f1, f2, e, ef, h1, h2⟩, kf =>
    ⟨v, r, e, RO.frozen hz o v f1 h1 fun a ha => kf a (by rw [ef]; exact List.mem_append_left _ ha), ROs.frozen hz os r f2 h2 fun a ha => kf a (by rw [ef]; exact List.mem_append_right _ ha)⟩
end
theorem ROs.len : ∀ {os : List O} {vs : List V} {fp : List Addr}, ROs W H Z os vs fp → os.length = vs.length
  | [], _, _, ⟨e, _⟩ => by rw [e]; rfl
  | o :: os, vs, fp, ⟨v, r, f1, f2, e, ef, h1, h2⟩ => by rw [e, List.length_cons, List.length_cons, ROs.len h2]
theorem RDs.len : ∀ {ds : List D} {vs : List V}, RDs W H Z ds vs → ds.length = vs.length
  | [], _, e => by rw [show _ = [] from e]; rfl
  | o :: os, vs, ⟨v, r, e, h1, h2⟩ => by rw [e, List.length_cons, List.length_cons, RDs.len h2]
theorem RDs.get : ∀ {ds : List D} {vs : List V} {i : Nat} {d : D}, RDs W H Z ds vs → ds[i]? = some d → ∃ v, vs[i]? = some v ∧ RD W H Z d v
  | [], _, _, _, _, e => by simp at e
  | d :: ds, vs, 0, d', ⟨v, r, e, h1, h2⟩, e' => by
    have : d = d' := Option.some.inj e'
    subst this; exact ⟨v, by rw [e]; rfl, h1⟩
  | d :: ds, vs, i + 1, d', ⟨v, r, e, h1, h2⟩, e' => by
    obtain ⟨x, hx, hr⟩ := RDs.get (i := i) h2 e'
    exact ⟨x, by rw [e]; exact hx, hr⟩
theorem RDs.append : ∀ {ds es : List D} {vs us : List V}, RDs W H Z ds vs → RDs W H Z es us → RDs W H Z (ds ++ es) (vs ++ us)
  | [], _, _, _, e, h => by rw [show _ = [] from e]; exact h
  | d :: ds, es, vs, us, ⟨v, r, e, h1, h2⟩, h => ⟨v, r ++ us, by rw [e]; rfl, h1, RDs.append h2 h⟩
theorem RDs.ros : ∀ {ds : List D} {vs : List V}, RDs W H Z ds vs → ROs W H Z (ds.map O.d) vs []
  | [], _, e => ⟨e, rfl⟩
  | d :: ds, vs, ⟨v, r, e, h1, h2⟩ => ⟨v, r, [], [], e, rfl, ⟨h1, rfl⟩, RDs.ros h2⟩
theorem ROs.append : ∀ {os ps : List O} {vs us : List V} {f g : List Addr}, ROs W H Z os vs f → ROs W H Z ps us g → ROs W H Z (os ++ ps) (vs ++ us) (f ++ g)
  | [], _, _, _, _, _, ⟨e, ef⟩, h => by rw [e, ef]; exact h
  | o :: os, ps, vs, us, f, g, ⟨v, r, f1, f2, e, ef, h1, h2⟩, h => ⟨v, r ++ us, f1, f2 ++ g, by rw [e]; rfl, by rw [ef, List.append_assoc], h1, ROs.append h2 h⟩
theorem ROs.split : ∀ {os ps : List O} {ws : List V} {f : List Addr}, ROs W H Z (os ++ ps) ws f → ∃ vs us f1 f2, ws = vs ++ us ∧ f = f1 ++ f2 ∧ ROs W H Z os vs f1 ∧ ROs W H Z ps us f2
  | [], ps, ws, f, h => ⟨[], ws, [], f, rfl, rfl, ⟨rfl, rfl⟩, h⟩
  | o :: os, ps, ws, f, ⟨v, r, f1, f2, e, ef, h1, h2⟩ => by
    obtain ⟨vs, us, g1, g2, e', ef', a, b⟩ := ROs.split h2
    exact ⟨v :: vs, us, f1 ++ g1, g2, by rw [e, e']; rfl, by rw [ef, ef', List.append_assoc], ⟨v, vs, f1, g1, rfl, rfl, h1, a⟩, b⟩
theorem ROs.one {o : O} {v : V} {f : List Addr} (h : RO W H Z o v f) : ROs W H Z [o] [v] f := ⟨v, [], f, [], rfl, (List.append_nil f).symm, h, rfl, rfl⟩
theorem ROs.setO : ∀ {os : List O} {vs : List V} {f : List Addr} {i : Nat} {o o' : O} {v' : V} {g : List Addr}, ROs W H Z os vs f → os[i]? = some o → RO W H Z o' v' g →
    ∃ f1 f2 f3, f = f1 ++ f2 ++ f3 ∧ ROs W H Z (os.set i o') (vs.set i v') (f1 ++ g ++ f3)
  | [], _, _, _, _, _, _, _, _, e, _ => by simp at e
  | p :: os, vs, f, 0, o, o', v', g, ⟨v, r, f1, f2, e, ef, h1, h2⟩, e', h => by
    refine ⟨[], f1, f2, by rw [ef]; rfl, ?_⟩
    rw [e]
    exact ⟨v', r, g, f2, rfl, by simp, h, h2⟩
  | p :: os, vs, f, i + 1, o, o', v', g, ⟨v, r, f1, f2, e, ef, h1, h2⟩, e', h => by
    obtain ⟨g1, g2, g3, eg, hr⟩ := ROs.setO (i := i) h2 e' h
    refine ⟨f1 ++ g1, g2, g3, by rw [ef, eg]; simp, ?_⟩
    rw [e]
    exact ⟨v, r.set i v', f1, g1 ++ g ++ g3, rfl, by simp, h1, hr⟩
theorem REnv.len : ∀ {e : List (Option O)} {σ : St} {f : List Addr}, REnv W H Z e σ f → e.length = σ.length
  | [], _, _, ⟨e, _⟩ => by rw [e]; rfl
  | none :: e, _, _, ⟨x, r, es, h⟩ => by rw [es, List.length_cons, List.length_cons, REnv.len h]
  | some o :: e, _, _, ⟨v, r, f1, f2, es, ef, h1, h2⟩ => by rw [es, List.length_cons, List.length_cons, REnv.len h2]
theorem REnv.get : ∀ {e : List (Option O)} {σ : St} {f : List Addr} {i : Nat} {o : O}, REnv W H Z e σ f → e[i]? = some (some o) → ∃ v f1 f2 f3, σ[i]? = some (some v) ∧ f = f1 ++ f2 ++ f3 ∧ RO W H Z o v f2
  | [], _, _, _, _, _, e' => by simp at e'
  | none :: e, _, _, 0, _, _, e' => by simp at e'
  | some p :: e, σ, f, 0, o, ⟨v, r, f1, f2, es, ef, h1, h2⟩, e' => by
    have : p = o := Option.some.inj (Option.some.inj e')
    subst this; exact ⟨v, [], f1, f2, by rw [es]; rfl, by rw [ef]; rfl, h1⟩
  | none :: e, σ, f, i + 1, o, ⟨x, r, es, h⟩, e' => by
    obtain ⟨v, f1, f2, f3, hv, ef, hr⟩ := REnv.get (i := i) h e'
    exact ⟨v, f1, f2, f3, by rw [es]; exact hv, ef, hr⟩
  | some p :: e, σ, f, i + 1, o, ⟨v, r, f1, f2, es, ef, h1, h2⟩, e' => by
    obtain ⟨x, g1, g2, g3, hx, eg, hr⟩ := REnv.get (i := i) h2 e'
    exact ⟨x, f1 ++ g1, g2, g3, by rw [es]; exact hx, by rw [ef, eg]; simp, hr⟩
theorem REnv.set : ∀ {e : List (Option O)} {σ : St} {f : List Addr} {i : Nat} {o : O} {v : V} {g : List Addr}, REnv W H Z e σ f → i < e.length → RO W H Z o v g →
    ∃ f1 f2 f3, f = f1 ++ f2 ++ f3 ∧ REnv W H Z (e.set i (some o)) (σ.set i (some v)) (f1 ++ g ++ f3)
  | [], _, _, _, _, _, _, _, hi, _ => absurd hi (Nat.not_lt_zero _)
  | none :: e, σ, f, 0, o, v, g, ⟨x, r, es, h⟩, _, ho => ⟨[], [], f, rfl, by rw [es]; exact ⟨v, r, g, f, rfl, by simp, ho, h⟩⟩
  | some p :: e, σ, f, 0, o, v, g, ⟨x, r, f1, f2, es, ef, h1, h2⟩, _, ho => ⟨[], f1, f2, by rw [ef]; rfl, by rw [es]; exact ⟨v, r, g, f2, rfl, by simp, ho, h2⟩⟩
  | none :: e, σ, f, i + 1, o, v, g, ⟨x, r, es, h⟩, hi, ho => by
    obtain ⟨f1, f2, f3, ef, hr⟩ := REnv.set (i := i) h (Nat.lt_of_succ_lt_succ hi) ho
    exact ⟨f1, f2, f3, ef, by rw [es]; exact ⟨x, _, rfl, hr⟩⟩
  | some p :: e, σ, f, i + 1, o, v, g, ⟨x, r, f1, f2, es, ef, h1, h2⟩, hi, ho => by
    obtain ⟨g1, g2, g3, eg, hr⟩ := REnv.set (i := i) h2 (Nat.lt_of_succ_lt_succ hi) ho
    refine ⟨f1 ++ g1, g2, g3, by rw [ef, eg]; simp, ?_⟩
    rw [es]
    exact ⟨x, r.set i (some v), f1, g1 ++ g ++ g3, rfl, by simp, h1, hr⟩
theorem REnv.drop : ∀ {e : List (Option O)} {σ : St} {f : List Addr} {i : Nat} {o : O}, REnv W H Z e σ f → e[i]? = some (some o) →
    ∃ v f1 f2 f3, σ[i]? = some (some v) ∧ f = f1 ++ f2 ++ f3 ∧ RO W H Z o v f2 ∧ REnv W H Z (e.set i none) σ (f1 ++ f3)
  | [], _, _, _, _, _, e' => by simp at e'
  | none :: e, _, _, 0, _, _, e' => by simp at e'
  | some p :: e, σ, f, 0, o, ⟨v, r, f1, f2, es, ef, h1, h2⟩, e' => by
    have : p = o := Option.some.inj (Option.some.inj e')
    subst this; exact ⟨v, [], f1, f2, by rw [es]; rfl, by rw [ef]; rfl, h1, ⟨some v, r, es, h2⟩⟩
  | none :: e, σ, f, i + 1, o, ⟨x, r, es, h⟩, e' => by
    obtain ⟨v, f1, f2, f3, hv, ef, hr, h3⟩ := REnv.drop (i := i) h e'
    exact ⟨v, f1, f2, f3, by rw [es]; exact hv, ef, hr, ⟨x, r, es, h3⟩⟩
  | some p :: e, σ, f, i + 1, o, ⟨v, r, f1, f2, es, ef, h1, h2⟩, e' => by
    obtain ⟨x, g1, g2, g3, hx, eg, hr, h3⟩ := REnv.drop (i := i) h2 e'
    exact ⟨x, f1 ++ g1, g2, g3, by rw [es]; exact hx, by rw [ef, eg]; simp, hr, ⟨v, r, f1, g1 ++ g3, es, by simp, h1, h3⟩⟩
theorem REnv.back : ∀ {e : List (Option O)} {σ : St} {f : List Addr} {i : Nat} {o : O} {v : V} {g : List Addr}, REnv W H Z e σ f → e[i]? = some none → σ[i]? = some (some v) → RO W H Z o v g →
    ∃ f1 f3, f = f1 ++ f3 ∧ REnv W H Z (e.set i (some o)) σ (f1 ++ g ++ f3)
  | [], _, _, _, _, _, _, _, e', _, _ => by simp at e'
  | some p :: e, _, _, 0, _, _, _, _, e', _, _ => by simp at e'
  | none :: e, σ, f, 0, o, v, g, ⟨x, r, es, h⟩, _, hv, ho => by
    rw [es] at hv
    have : x = some v := Option.some.inj hv
    subst this
    exact ⟨[], f, rfl, ⟨v, r, g, f, es, by simp, ho, h⟩⟩
  | none :: e, σ, f, i + 1, o, v, g, ⟨x, r, es, h⟩, e', hv, ho => by
    rw [es] at hv
    obtain ⟨f1, f3, ef, hr⟩ := REnv.back (i := i) h e' hv ho
    exact ⟨f1, f3, ef, ⟨x, r, es, hr⟩⟩
  | some p :: e, σ, f, i + 1, o, v, g, ⟨x, r, f1, f2, es, ef, h1, h2⟩, e', hv, ho => by
    rw [es] at hv
    obtain ⟨g1, g3, eg, hr⟩ := REnv.back (i := i) h2 e' hv ho
    exact ⟨f1 ++ g1, g3, by rw [ef, eg]; simp, ⟨x, r, f1, g1 ++ g ++ g3, es, by simp, h1, hr⟩⟩
end
end MX
namespace MX
open PySem L2
structure Cl where
  f : String → Option Addr
  ex : Option (Nat × Addr) := none
inductive Sl where
  | no | v (o : O) | p (o : O) | pn
abbrev En := List Sl
def Sl.cont : Sl → Option O
  | .v o => some o
  | .p o => some o
  | _ => none
def Sl.lent : Sl → Sl
  | .v _ => .no
  | .p _ => .pn
  | s => s
def Sl.put : Sl → O → Sl
  | .p _, o => .p o
  | .pn, o => .p o
  | _, o => .v o
def Sl.pinned : Sl → Bool
  | .p _ => true
  | .pn => true
  | _ => false
inductive Rs (α : Type) where
  | ok (x : α) (e : En)
  | exc (c : String) (ps : List (Str × D)) (e : En)
  | bad
def Rs.bind {α β : Type} : Rs α → (α → En → Rs β) → Rs β
  | .ok x e, f => f x e
  | .exc c ps e, _ => .exc c ps e
  | .bad, _ => .bad
inductive Out where
  | nx (e : En) | rt (o : O) (e : En) | bk (e : En) | ct (e : En) | exc (c : String) (ps : List (Str × D)) (e : En) | bad
inductive RF where
  | ok (o : O) (ps : List (Option O))
  | exc (c : String) (ps : List (Str × D)) (qs : List (Option O))
  | bad
abbrev Den := List O → RF
abbrev Ts := List (O × V)
structure RS (W : Wd) (Z F : Addr → Prop) (P : Nat → V) (e : En) (T : Ts) (σ : L2.St) (H : Hp) : Prop where
  ex : ∃ fe ft, REnv W H Z (e.map Sl.cont) σ fe ∧ ROs W H Z (T.map (·.1)) (T.map (·.2)) ft ∧ (fe ++ ft).Nodup ∧ ∀ a ∈ fe ++ ft, F a
  sep : ∀ a, F a → ¬ Z a
  zin : ∀ a, Z a → H a ≠ none
  fin : ∀ a, F a → Mut (H a)
  pin : ∀ (i : Nat) (s : Sl), e[i]? = some s → s.pinned = true → σ[i]? = some (some (P i))
  px : ∀ (i : Nat) (a : Addr), W.ex = some (i, a) → P i = .ref a
structure Stp (Z F : Addr → Prop) (H : Hp) (Z' F' : Addr → Prop) (H' : Hp) : Prop where
  z : ∀ a, Z a → Z' a
  keep : ∀ a o, H a = some o → ¬ F a → H' a = some o
  dom : ∀ a, H a ≠ none → H' a ≠ none
  f' : ∀ a, F' a → F a ∨ H a = none
  z' : ∀ a, Z' a → Z a ∨ F a ∨ H a = none
section
variable {W : Wd} {Z F Z' F' Z2 F2 : Addr → Prop} {P : Nat → V} {e e' : En} {T T' : Ts} {σ σ' : L2.St} {H H' H2 : Hp}
theorem Stp.refl : Stp Z F H Z F H := ⟨fun _ h => h, fun _ _ h _ => h, fun _ h => h, fun _ h => .inl h, fun _ h => .inl h⟩
theorem Stp.trans (s : Stp Z F H Z' F' H') (t : Stp Z' F' H' Z2 F2 H2) : Stp Z F H Z2 F2 H2 := by
  refine ⟨fun a h => t.z a (s.z a h), fun a o h hf => t.keep a o (s.keep a o h hf) fun h' => ?_, fun a h => t.dom a (s.dom a h), fun a h => ?_, fun a h => ?_⟩
  · rcases s.f' a h' with q | q
    · exact hf q
    · rw [h] at q; cases q
  · rcases t.f' a h with q | q
    · exact s.f' a q
    · right
      cases r : H a with
      | none => rfl
      | some o => exact absurd q (s.dom a (by rw [r]; simp))
  · rcases t.z' a h with q | q | q
    · exact s.z' a q
    · rcases s.f' a q with q | q
      · exact .inr (.inl q)
      · exact .inr (.inr q)
    · right; right
      cases r : H a with
      | none => rfl
      | some o => exact absurd q (s.dom a (by rw [r]; simp))
theorem notMut_tup {a : Addr} {xs : List V} (h : H a = some (.tup xs)) : ¬ Mut (H a) := by rw [h]; exact fun z => z
theorem notMut_frz {a : Addr} {o : Obj} {u : HO} (h : H a = some (.frz o u)) : ¬ Mut (H a) := by rw [h]; exact fun z => z
theorem notMut_none {a : Addr} (h : H a = none) : ¬ Mut (H a) := by rw [h]; exact fun z => z
theorem kp_of (sep : ∀ a, F a → ¬ Z a) (fin : ∀ a, F a → Mut (H a)) (s : Stp Z F H Z' F' H') : Kp H Z H' Z' :=
  ⟨s.z, fun a o z h => s.keep a o h fun hf => sep a hf z, fun a xs h => s.keep a _ h fun hf => notMut_tup h (fin a hf), fun a o u h => s.keep a _ h fun hf => notMut_frz h (fin a hf)⟩
theorem RS.kp (r : RS W Z F P e T σ H) (s : Stp Z F H Z' F' H') : Kp H Z H' Z' := kp_of r.sep r.fin s
theorem RS.grow (r : RS W Z F P e T σ H) (k : ∀ a o, H a = some o → H' a = some o) : RS W Z F P e T σ H' := by
  obtain ⟨⟨fe, ft, h1, h2, nd, hF⟩, sep, zin, fin, pin, px⟩ := r
  have kp : Kp H Z H' Z := ⟨fun _ h => h, fun a o _ h => k a o h, fun a _ h => k a _ h, fun a _ _ h => k a _ h⟩
  refine ⟨⟨fe, ft, h1.keep kp _ _ _ fun a _ u q => k a u q, h2.keep kp _ _ _ fun a _ u q => k a u q, nd, hF⟩, sep, fun a z q => ?_, fun a f => ?_, pin, px⟩
  · cases x : H a with
    | none => exact zin a z x
    | some o => rw [k a o x] at q; cases q
  · cases x : H a with
    | none => exact absurd (fin a f) (notMut_none x)
    | some o => rw [k a o x, ← x]; exact fin a f
theorem same_upd {p : Addr} {o : HO} (hp : H p = none) : ∀ a u, H a = some u → upd H p o a = some u := fun a u h => by rw [upd_ne (ne_of_none h hp)]; exact h
theorem dom_upd {p : Addr} {o : HO} : ∀ a, H a ≠ none → upd H p o a ≠ none := fun a h q => by
  by_cases e : a = p
  · subst e; rw [upd_same] at q; cases q
  · rw [upd_ne e] at q; exact h q
theorem Stp.alloc {p : Addr} {o : HO} (hp : H p = none) : Stp Z F H Z F (upd H p o) :=
  ⟨fun _ h => h, fun a u h _ => same_upd hp a u h, dom_upd, fun _ h => .inl h, fun _ h => .inl h⟩
theorem Stp.allocF {p : Addr} {o : HO} (hp : H p = none) : Stp Z F H Z (fun a => F a ∨ a = p) (upd H p o) :=
  ⟨fun _ h => h, fun a u h _ => same_upd hp a u h, dom_upd, fun a h => h.elim .inl fun z => .inr (by rw [z]; exact hp), fun _ h => .inl h⟩
theorem RS.pop {x : O × V} (r : RS W Z F P e (x :: T) σ H) : RS W Z F P e T σ H := by
  obtain ⟨⟨fe, ft, h1, ⟨v, rr, f1, f2, ev, ef, h2, h3⟩, nd, hF⟩, sep, zin, fin, pin, px⟩ := r
  have e1 : T.map (·.2) = rr := (List.cons.inj ev).2
  subst e1
  refine ⟨⟨fe, f2, h1, h3, ?_, fun a ha => hF a ?_⟩, sep, zin, fin, pin, px⟩
  · rw [ef] at nd
    refine nd.sublist (List.Sublist.append_left ?_ _)
    exact List.sublist_append_right _ _
  · rw [ef]
    rcases List.mem_append.mp ha with q | q
    · exact List.mem_append_left _ q
    · exact List.mem_append_right _ (List.mem_append_right _ q)
theorem RS.push {x : D} {v : V} (r : RS W Z F P e T σ H) (h : RD W H Z x v) : RS W Z F P e ((.d x, v) :: T) σ H := by
  obtain ⟨⟨fe, ft, h1, h2, nd, hF⟩, sep, zin, fin, pin, px⟩ := r
  exact ⟨⟨fe, ft, h1, ⟨v, _, [], ft, rfl, rfl, ⟨h, rfl⟩, h2⟩, nd, hF⟩, sep, zin, fin, pin, px⟩
theorem RS.top {o : O} {v : V} (r : RS W Z F P e ((o, v) :: T) σ H) : ∃ f, RO W H Z o v f ∧ ∀ a ∈ f, F a := by
  obtain ⟨⟨fe, ft, h1, ⟨v', rr, f1, f2, ev, ef, h2, h3⟩, nd, hF⟩, sep, zin, fin, pin, px⟩ := r
  have e0 : v = v' := (List.cons.inj ev).1
  subst e0
  exact ⟨f1, h2, fun a ha => hF a (by rw [ef]; exact List.mem_append_right _ (List.mem_append_left _ ha))⟩
theorem RS.topD {x : D} {v : V} (r : RS W Z F P e ((.d x, v) :: T) σ H) : RD W H Z x v := by
  obtain ⟨f, ⟨h, _⟩, _⟩ := r.top
  exact h
theorem ROs.perm {W : Wd} {H : Hp} {Z : Addr → Prop} {T T' : Ts} (p : T.Perm T') : ∀ {f : List Addr}, ROs W H Z (T.map (·.1)) (T.map (·.2)) f → ∃ g, ROs W H Z (T'.map (·.1)) (T'.map (·.2)) g ∧ f.Perm g := by
  induction p with
  | nil => exact fun {f} h => ⟨f, h, .refl _⟩
  | cons x p ih =>
    intro f ⟨v, r, f1, f2, ev, ef, h1, h2⟩
    have e1 := (List.cons.inj ev).2
    subst e1
    obtain ⟨g, hg, pg⟩ := ih h2
    have e0 : x.2 = v := (List.cons.inj ev).1
    exact ⟨f1 ++ g, ⟨v, _, f1, g, by rw [← e0]; rfl, rfl, h1, hg⟩, by rw [ef]; exact pg.append_left _⟩
  | swap x y l =>
    intro f ⟨v, r, f1, f2, ev, ef, h1, ⟨v2, r2, g1, g2, ev2, ef2, h3, h4⟩⟩
    have e0 : y.2 = v := (List.cons.inj ev).1
    have e1 := (List.cons.inj ev).2
    subst e1
    have e2 : x.2 = v2 := (List.cons.inj ev2).1
    have e3 := (List.cons.inj ev2).2
    subst e3
    refine ⟨g1 ++ (f1 ++ g2), ⟨v2, _, g1, f1 ++ g2, by rw [← e2]; rfl, rfl, h3, ⟨v, _, f1, g2, by rw [← e0]; rfl, rfl, h1, h4⟩⟩, ?_⟩
    rw [ef, ef2, ← List.append_assoc, ← List.append_assoc]
    exact List.Perm.append_right _ List.perm_append_comm
  | trans _ _ ih1 ih2 =>
    intro f h
    obtain ⟨g, hg, p1⟩ := ih1 h
    obtain ⟨g', hg', p2⟩ := ih2 hg
    exact ⟨g', hg', p1.trans p2⟩
theorem RS.perm (r : RS W Z F P e T σ H) (p : T.Perm T') : RS W Z F P e T' σ H := by
  obtain ⟨⟨fe, ft, h1, h2, nd, hF⟩, sep, zin, fin, pin, px⟩ := r
  obtain ⟨g, hg, pg⟩ := ROs.perm p h2
  have pp : (fe ++ ft).Perm (fe ++ g) := pg.append_left _
  exact ⟨⟨fe, g, h1, hg, pp.nodup nd, fun a ha => hF a (pp.mem_iff.mpr ha)⟩, sep, zin, fin, pin, px⟩
theorem RS.freeze {o : O} {v : V} (r : RS W Z F P e ((o, v) :: T) σ H) : ∃ Z' F', Stp Z F H Z' F' H ∧ RS W Z' F' P e ((.d o.fz, v) :: T) σ H := by
  obtain ⟨⟨fe, ft, h1, ⟨v', rr, f1, f2, ev, ef, h2, h3⟩, nd, hF⟩, sep, zin, fin, pin, px⟩ := r
  have e0 : v = v' := (List.cons.inj ev).1
  have e1 : T.map (·.2) = rr := (List.cons.inj ev).2
  subst e0 e1
  have f1F : ∀ a ∈ f1, F a := fun a ha => hF a (by rw [ef]; exact List.mem_append_right _ (List.mem_append_left _ ha))
  rw [ef] at nd
  have nd' : (fe ++ f2).Nodup := nd.sublist (List.Sublist.append_left (List.sublist_append_right _ _) _)
  have out : ∀ a ∈ fe ++ f2, a ∉ f1 := by
    intro a ha h
    rcases List.mem_append.mp ha with q | q
    · exact (List.nodup_append.mp nd).2.2 a q a (List.mem_append_left _ h) rfl
    · exact (List.nodup_append.mp (List.nodup_append.mp nd).2.1).2.2 a h a q rfl
  have kp : Kp H Z H (fun a => Z a ∨ a ∈ f1) := Kp.zmono fun a h => .inl h
  refine ⟨fun a => Z a ∨ a ∈ f1, fun a => F a ∧ a ∉ f1, ⟨fun a h => .inl h, fun a u h _ => h, fun a h => h, fun a h => .inl h.1, fun a h => h.imp id fun q => .inl (f1F a q)⟩, ⟨⟨fe, f2, h1.keep kp _ _ _ fun _ _ _ q => q, ⟨v, _, [], f2, rfl, rfl, ⟨h2.frozen (fun a h => .inl h) _ _ _ fun a h => .inr h, rfl⟩, h3.keep kp _ _ _ fun _ _ _ q => q⟩, nd', fun a ha => ⟨hF a ?_, out a ha⟩⟩, fun a h z => ?_, fun a h => ?_, fun a h => fin a h.1, pin, px⟩⟩
  · rw [ef]
    rcases List.mem_append.mp ha with q | q
    · exact List.mem_append_left _ q
    · exact List.mem_append_right _ (List.mem_append_right _ q)
  · rcases z with z | z
    · exact sep a h.1 z
    · exact h.2 z
  · rcases h with h | h
    · exact zin a h
    · exact fun q => absurd (fin a (f1F a h)) (notMut_none q)
end
end MX
namespace MX
open PySem L2
def Pay (W : Wd) (H : Hp) (Z : Addr → Prop) (ps : List (Str × D)) (dd : Option Addr) : Prop :=
  (ps = [] ∧ dd = none) ∨ ∃ d fs, ps ≠ [] ∧ dd = some d ∧ H d = some (.xd fs) ∧ fs.map (·.1) = ps.map (·.1) ∧ RDs W H Z (ps.map (·.2)) (fs.map (·.2))
theorem Pay.wx {W W' : Wd} (k : Wx W W') {H : Hp} {Z : Addr → Prop} {ps : List (Str × D)} {dd : Option Addr} (h : Pay W H Z ps dd) : Pay W' H Z ps dd := by
  rcases h with h | ⟨d, fs, a, b, c, m, r⟩
  · exact .inl h
  · exact .inr ⟨d, fs, a, b, c, m, RDs.wx k _ _ r⟩
def XOk (W : Wd) (Wo : WX) (Z F : Addr → Prop) (P : Nat → V) (T : Ts) (σ : L2.St) (H : Hp) (c : String) (ps : List (Str × D)) (e : En) : Prop :=
  ∀ Z' F' H' C dd, W.cl c = some C → Pay W H' Z' ps dd → Stp Z F H Z' F' H' → RS W Z' F' P e T σ H' → Wo (.ref C) dd σ H'
def PostE (W : Wd) (Wo : WX) (Z F : Addr → Prop) (P : Nat → V) (T : Ts) (σ : L2.St) (H : Hp) (Q : VK) : Rs O → Prop
  | .ok o e => ∀ v Z' F' H', Stp Z F H Z' F' H' → RS W Z' F' P e ((o, v) :: T) σ H' → Q v H'
  | .exc c ps e => XOk W Wo Z F P T σ H c ps e
  | .bad => False
def rdE (W : Wd) (Wo : WX) (d : En → Rs O) : TE := fun σ H Q => ∃ Z F P e T, RS W Z F P e T σ H ∧ PostE W Wo Z F P T σ H Q (d e)
inductive Ar where
  | t (o : O) | s (i : Nat)
def slot (e : En) (i : Nat) : Option O := e[i]?.bind Sl.cont
def Ar.get (e : En) : Ar → Option O
  | .t o => some o
  | .s i => slot e i
def Ar.tmp : Ar → V → Ts
  | .t o, v => [(o, v)]
  | .s _, _ => []
def Ar.at (σ : L2.St) : Ar → V → Prop
  | .t _, _ => True
  | .s i, v => σ[i]? = some (some v)
def PostV (W : Wd) (Wo : WX) (Z F : Addr → Prop) (P : Nat → V) (T : Ts) (σ : L2.St) (H : Hp) (Q : VK) : Rs Ar → Prop
  | .ok x e => ∀ v Z' F' H', Stp Z F H Z' F' H' → RS W Z' F' P e (x.tmp v ++ T) σ H' → x.at σ v → Q v H'
  | .exc c ps e => XOk W Wo Z F P T σ H c ps e
  | .bad => False
def rdV (W : Wd) (Wo : WX) (d : En → Rs Ar) : TE := fun σ H Q => ∃ Z F P e T, RS W Z F P e T σ H ∧ PostV W Wo Z F P T σ H Q (d e)
def PostT (W : Wd) (Wo : WX) (Z F : Addr → Prop) (P : Nat → V) (T : Ts) (σ : L2.St) (H : Hp) (Q : Bool → Hp → Prop) : Rs Bool → Prop
  | .ok b e => ∀ Z' F' H', Stp Z F H Z' F' H' → RS W Z' F' P e T σ H' → Q b H'
  | .exc c ps e => XOk W Wo Z F P T σ H c ps e
  | .bad => False
def rdT (W : Wd) (Wo : WX) (d : En → Rs Bool) : TT := fun σ H Q => ∃ Z F P e T, RS W Z F P e T σ H ∧ PostT W Wo Z F P T σ H Q (d e)
def PostA (W : Wd) (Wo : WX) (Z F : Addr → Prop) (P : Nat → V) (T : Ts) (σ : L2.St) (H : Hp) (Q : List V → Hp → Prop) : Rs (List O) → Prop
  | .ok os e => ∀ vs Z' F' H', os.length = vs.length → Stp Z F H Z' F' H' → RS W Z' F' P e (os.zip vs ++ T) σ H' → Q vs H'
  | .exc c ps e => XOk W Wo Z F P T σ H c ps e
  | .bad => False
def rdA (W : Wd) (Wo : WX) (d : En → Rs (List O)) : TA := fun σ H Q => ∃ Z F P e T, RS W Z F P e T σ H ∧ PostA W Wo Z F P T σ H Q (d e)
abbrev Cx.wd (X : Cx) (cl : Cl) : Wd := ⟨X.K, cl.f, cl.ex⟩
def HE (X : Cx) (cl : Cl) (Wo : WX) (e : Expr) (d : En → Rs O) : Prop := PE X e (rdE (Cx.wd X cl) Wo d)
def HV (X : Cx) (cl : Cl) (Wo : WX) (e : Expr) (d : En → Rs Ar) : Prop := PE X e (rdV (Cx.wd X cl) Wo d)
def HT (X : Cx) (cl : Cl) (Wo : WX) (e : Expr) (d : En → Rs Bool) : Prop := PT X e (rdT (Cx.wd X cl) Wo d)
def HA (X : Cx) (cl : Cl) (Wo : WX) (es : List Expr) (d : En → Rs (List O)) : Prop := PA X es (rdA (Cx.wd X cl) Wo d)
theorem PE.imp {X : Cx} {e : Expr} {t t' : TE} (h : PE X e t) (k : ∀ σ H Q, t' σ H Q → t σ H Q) : PE X e t' := ⟨fun pins s σ H Q I q => h.run pins s σ H Q I (k σ H Q q)⟩
theorem PT.imp {X : Cx} {e : Expr} {t t' : TT} (h : PT X e t) (k : ∀ σ H Q, t' σ H Q → t σ H Q) : PT X e t' := ⟨fun pins s σ H Q I q => h.run pins s σ H Q I (k σ H Q q)⟩
theorem PW.imp {X : Cx} {e : Expr} {t t' : TT} (h : PW X e t) (k : ∀ σ H Q, t' σ H Q → t σ H Q) : PW X e t' := ⟨fun wh pins s σ H Q I q => h.run wh pins s σ H Q I (k σ H Q q)⟩
theorem PA.imp {X : Cx} {e : List Expr} {t t' : TA} (h : PA X e t) (k : ∀ σ H Q, t' σ H Q → t σ H Q) : PA X e t' := ⟨fun pos pins s σ H Q I q => h.run pos pins s σ H Q I (k σ H Q q)⟩
section
variable {X : Cx} {cl : Cl} {Wo : WX} {pos : Pos}
variable {W : Wd} {Z F Z' F' : Addr → Prop} {P : Nat → V} {e : En} {T : Ts} {σ : L2.St} {H H' : Hp} {Q : VK}
theorem XOk.step (s : Stp Z F H Z' F' H') {c ps} (h : XOk W Wo Z F P T σ H c ps e) : XOk W Wo Z' F' P T σ H' c ps e :=
  fun Z2 F2 H2 C dd hc py s2 r => h Z2 F2 H2 C dd hc py (s.trans s2) r
theorem XOk.popped {x : O × V} {c ps} (h : XOk W Wo Z F P T σ H c ps e) : XOk W Wo Z F P (x :: T) σ H c ps e :=
  fun Z2 F2 H2 C dd hc py s2 r => h Z2 F2 H2 C dd hc py s2 r.pop
theorem slot_get (r : RS W Z F P e T σ H) {i : Nat} {o : O} (h : slot e i = some o) : ∃ v f, σ[i]? = some (some v) ∧ RO W H Z o v f ∧ ∀ a ∈ f, F a := by
  obtain ⟨⟨fe, ft, h1, h2, nd, hF⟩, _⟩ := r
  have e1 : (e.map Sl.cont)[i]? = some (some o) := by
    rw [List.getElem?_map]
    unfold slot at h
    cases q : e[i]? with
    | none => rw [q] at h; simp at h
    | some s => rw [q] at h; simpa using h
  obtain ⟨v, f1, f2, f3, hv, ef, hr⟩ := h1.get e1
  exact ⟨v, f2, hv, hr, fun a ha => hF a (List.mem_append_left _ (by rw [ef]; exact List.mem_append_left _ (List.mem_append_right _ ha)))⟩
def See (W : Wd) (H : Hp) (Z : Addr → Prop) (o : O) (v : V) : Prop := ∃ f, RO W H Z o v f
theorem See.d {x : D} {v : V} (h : See W H Z (.d x) v) : RD W H Z x v := h.elim fun _ h => h.1
theorem See.fz {o : O} {v : V} (h : See W H Z o v) : True := trivial
def dC (x : D) : En → Rs O := fun e => .ok (.d x) e
theorem he_C {ex : Expr} {v : V} {x : D} (h : PE X ex (tC v)) (hr : ∀ H Z, RD (Cx.wd X cl) H Z x v) : HE X cl Wo ex (dC x) :=
  PE.imp h fun σ H Q ⟨Z, F, P, e, T, r, k⟩ => k v Z F H .refl (r.push (hr H Z))
theorem he_int {i j} : HE X cl Wo (.Constant (.int i) j pos) (dC (.int i)) := he_C pe_int fun _ _ => rfl
theorem he_bl {b j} : HE X cl Wo (.Constant (.bool b) j pos) (dC (.bl b)) := he_C pe_bl fun _ _ => rfl
theorem he_non {j} : HE X cl Wo (.Constant .none j pos) (dC .non) := he_C pe_non fun _ _ => rfl
theorem he_str {x j} : HE X cl Wo (.Constant (.str x) j pos) (dC (.str x)) := he_C pe_str fun _ _ => rfl
def vS (i : Nat) : En → Rs Ar := fun e => match slot e i with
  | some _ => .ok (.s i) e
  | none => .bad
theorem hv_name {i : Nat} {x : Str} (h : PE X (.Name x pos) (tVar i)) : HV X cl Wo (.Name x pos) (vS i) :=
  PE.imp h fun σ H Q ⟨Z, F, P, e, T, r, k⟩ => by
    unfold vS at k
    cases q : slot e i with
    | none => rw [q] at k; exact k.elim
    | some o =>
      rw [q] at k
      obtain ⟨v, f, hv, _⟩ := slot_get r q
      exact ⟨v, hv, k v Z F H .refl r hv⟩
def vT (d : En → Rs O) : En → Rs Ar := fun e => (d e).bind fun o e1 => .ok (.t o) e1
theorem hv_of {ex : Expr} {d : En → Rs O} (h : HE X cl Wo ex d) : HV X cl Wo ex (vT d) :=
  PE.imp h fun σ H Q ⟨Z, F, P, e, T, r, k⟩ => ⟨Z, F, P, e, T, r, by
    unfold vT at k
    cases q : d e with
    | bad => rw [q] at k; exact k
    | exc c ps e' => rw [q] at k; exact k
    | ok o e' => rw [q] at k; exact fun v Z' F' H' s r => k v Z' F' H' s r trivial⟩
theorem map_set_cont {e : En} {i : Nat} {s : Sl} : (e.set i s).map Sl.cont = (e.map Sl.cont).set i s.cont := by rw [List.map_set]
theorem set_pin {e : En} {i j : Nat} {s t : Sl} (h : (e.set i s)[j]? = some t) (hp : t.pinned = true) (hs : s.pinned = true → ∃ s0, e[i]? = some s0 ∧ s0.pinned = true) : ∃ t0, e[j]? = some t0 ∧ t0.pinned = true := by
  by_cases ij : i = j
  · subst ij
    rw [List.getElem?_set] at h
    simp only [if_true] at h
    split at h
    · have : s = t := Option.some.inj h
      subst this
      exact hs hp
    · cases h
  · rw [List.getElem?_set_ne ij] at h
    exact ⟨t, h, hp⟩
theorem RS.lend (r : RS W Z F P e T σ H) {i : Nat} {s : Sl} {o : O} (hs : e[i]? = some s) (ho : s.cont = some o) : ∃ v, σ[i]? = some (some v) ∧ RS W Z F P (e.set i s.lent) ((o, v) :: T) σ H := by
  obtain ⟨⟨fe, ft, h1, h2, nd, hF⟩, sep, zin, fin, pin, px⟩ := r
  have e1 : (e.map Sl.cont)[i]? = some (some o) := by rw [List.getElem?_map, hs]; simp [ho]
  obtain ⟨v, f1, f2, f3, hv, ef, hr, h3⟩ := h1.drop e1
  have en : s.lent.cont = none := by cases s <;> rfl
  have pp : (fe ++ ft).Perm ((f1 ++ f3) ++ (f2 ++ ft)) := by
    rw [ef]
    simp only [List.append_assoc]
    refine List.Perm.append_left _ ?_
    rw [← List.append_assoc, ← List.append_assoc]
    exact List.Perm.append_right _ List.perm_append_comm
  refine ⟨v, hv, ⟨⟨f1 ++ f3, f2 ++ ft, ?_, ⟨v, _, f2, ft, rfl, rfl, hr, h2⟩, pp.nodup nd, fun a ha => hF a (pp.mem_iff.mpr ha)⟩, sep, zin, fin, fun j t hj hp => ?_, px⟩⟩
  · rw [map_set_cont, en]; exact h3
  · obtain ⟨t0, h0, p0⟩ := set_pin hj hp fun q => ⟨s, hs, by cases s <;> simp_all [Sl.lent, Sl.pinned]⟩
    exact pin j t0 h0 p0
theorem RS.back {v : V} {o : O} (r : RS W Z F P e ((o, v) :: T) σ H) {i : Nat} {s : Sl} (hs : e[i]? = some s) (ho : s.cont = none) (hv : σ[i]? = some (some v)) : RS W Z F P (e.set i (s.put o)) T σ H := by
  obtain ⟨⟨fe, ft, h1, ⟨v', rr, f1, f2, ev, ef, h2, h3⟩, nd, hF⟩, sep, zin, fin, pin, px⟩ := r
  have e0 : v = v' := (List.cons.inj ev).1
  have e2 : T.map (·.2) = rr := (List.cons.inj ev).2
  subst e0 e2
  have e1 : (e.map Sl.cont)[i]? = some none := by rw [List.getElem?_map, hs]; simp [ho]
  obtain ⟨g1, g3, eg, hr⟩ := h1.back e1 hv h2
  have pp : (fe ++ ft).Perm ((g1 ++ f1 ++ g3) ++ f2) := by
    rw [ef, eg]
    simp only [List.append_assoc]
    refine List.Perm.append_left _ ?_
    rw [← List.append_assoc, ← List.append_assoc]
    exact List.Perm.append_right _ List.perm_append_comm
  refine ⟨⟨g1 ++ f1 ++ g3, f2, ?_, h3, pp.nodup nd, fun a ha => hF a (pp.mem_iff.mpr ha)⟩, sep, zin, fin, fun j t hj hp => ?_, px⟩
  · rw [map_set_cont, show (s.put o).cont = some o by cases s <;> rfl]; exact hr
  · obtain ⟨t0, h0, p0⟩ := set_pin hj hp fun q => ⟨s, hs, by cases s <;> simp_all [Sl.put, Sl.pinned]⟩
    exact pin j t0 h0 p0
theorem RS.dup {x : D} {v : V} (r : RS W Z F P e ((.d x, v) :: T) σ H) : RS W Z F P e ((.d x, v) :: (.d x, v) :: T) σ H := r.push r.topD
def modS (f : Sl → Sl) : En → Nat → En
  | [], _ => []
  | s :: e, 0 => f s :: e
  | s :: e, i + 1 => s :: modS f e i
theorem modS_eq {f : Sl → Sl} : ∀ {e : En} {i : Nat} {s : Sl}, e[i]? = some s → modS f e i = e.set i (f s)
  | [], _, _, h => by simp at h
  | s :: e, 0, t, h => by
    have : s = t := Option.some.inj h
    subst this; rfl
  | s :: e, i + 1, t, h => by
    show s :: modS f e i = s :: e.set i (f t)
    rw [modS_eq (i := i) h]
def putS (e : En) (i : Nat) (o : O) : En := modS (fun s => s.put o) e i
def dVar (i : Nat) : En → Rs O := fun e => match slot e i with
  | some (.d x) => .ok (.d x) e
  | some o => .ok (.d o.fz) (putS e i (.d o.fz))
  | none => .bad
theorem slot_some {i : Nat} {o : O} (h : slot e i = some o) : ∃ s, e[i]? = some s ∧ s.cont = some o := by
  unfold slot at h
  cases q : e[i]? with
  | none => rw [q] at h; simp at h
  | some s => rw [q] at h; exact ⟨s, rfl, h⟩
theorem lt_of_get {α : Type} {l : List α} {i : Nat} {x : α} (h : l[i]? = some x) : i < l.length := by
  rcases Nat.lt_or_ge i l.length with q | q
  · exact q
  · rw [List.getElem?_eq_none q] at h; cases h
theorem get_set_self {e : En} {i : Nat} {s t : Sl} (h : e[i]? = some s) : (e.set i t)[i]? = some t := by
  rw [List.getElem?_set_self (lt_of_get h)]
theorem set_set {e : En} {i : Nat} {s t : Sl} : (e.set i s).set i t = e.set i t := List.set_set ..
theorem lent_put {s : Sl} {o p : O} (h : s.cont = some o) : s.lent.put p = s.put p := by cases s <;> first | rfl | cases h
theorem RS.read (r : RS W Z F P e T σ H) {i : Nat} {o : O} (h : slot e i = some o) : ∃ v Z' F', σ[i]? = some (some v) ∧ Stp Z F H Z' F' H ∧ RS W Z' F' P (putS e i (.d o.fz)) ((.d o.fz, v) :: T) σ H := by
  obtain ⟨s, hs, hc⟩ := slot_some h
  obtain ⟨v, hv, r1⟩ := r.lend hs hc
  obtain ⟨Z', F', st, r2⟩ := r1.freeze
  refine ⟨v, Z', F', hv, st, ?_⟩
  have r3 := RS.back r2.dup (i := i) (s := s.lent) (get_set_self hs) (by cases s <;> rfl) hv
  rw [set_set, lent_put hc] at r3
  unfold putS
  rw [modS_eq hs]
  exact r3
theorem he_var {i : Nat} {x : Str} (h : PE X (.Name x pos) (tVar i)) : HE X cl Wo (.Name x pos) (dVar i) :=
  PE.imp h fun σ H Q ⟨Z, F, P, e, T, r, k⟩ => by
    unfold dVar at k
    cases q : slot e i with
    | none => rw [q] at k; exact k.elim
    | some o =>
      rw [q] at k
      cases o with
      | d x =>
        obtain ⟨v, f, hv, hr, _⟩ := slot_get r q
        exact ⟨v, hv, k v Z F H .refl (r.push hr.1)⟩
      | lst xs =>
        obtain ⟨v, Z', F', hv, st, r2⟩ := r.read q
        exact ⟨v, hv, k v Z' F' H st r2⟩
      | dic ks xs =>
        obtain ⟨v, Z', F', hv, st, r2⟩ := r.read q
        exact ⟨v, hv, k v Z' F' H st r2⟩
      | obj c ns xs =>
        obtain ⟨v, Z', F', hv, st, r2⟩ := r.read q
        exact ⟨v, hv, k v Z' F' H st r2⟩
def dMove (i : Nat) : En → Rs O := fun e => match e[i]? with
  | some (.v o) => .ok o (e.set i .no)
  | _ => .bad
theorem he_move {i : Nat} {x : Str} (h : PE X (.Name x pos) (tVar i)) : HE X cl Wo (.Name x pos) (dMove i) :=
  PE.imp h fun σ H Q ⟨Z, F, P, e, T, r, k⟩ => by
    unfold dMove at k
    cases q : e[i]? with
    | none => rw [q] at k; exact k.elim
    | some s =>
      rw [q] at k
      cases s with
      | v o =>
        obtain ⟨v, hv, r1⟩ := r.lend q (s := .v o) rfl
        exact ⟨v, hv, k v Z F H .refl r1⟩
      | _ => exact k.elim
def fin (r : Option O) (e : En) : Rs O := match r with
  | some z => .ok z e
  | none => .bad
def dBin (f : O → O → Option O) (da db : En → Rs Ar) : En → Rs O := fun e => (da e).bind fun x e1 => (db e1).bind fun y e2 => match x.get e2, y.get e2 with
  | some a, some b => fin (f a b) e2
  | _, _ => .bad
def BinOk (W : Wd) (f : O → O → Option O) (r : V → V → Hp → VK → Prop) : Prop :=
  ∀ Z F P e T σ H a b z v u Q, f a b = some z → See W H Z a v → See W H Z b u → RS W Z F P e T σ H → (∀ w Z' F' H', Stp Z F H Z' F' H' → RS W Z' F' P e ((z, w) :: T) σ H' → Q w H') → r v u H Q
theorem see_tmp {x : Ar} {v : V} {o : O} (r : RS W Z F P e (x.tmp v ++ T) σ H) (ha : x.at σ v) (hg : x.get e = some o) : See W H Z o v ∧ RS W Z F P e T σ H := by
  cases x with
  | t p =>
    have : p = o := Option.some.inj hg
    subst this
    obtain ⟨f, h, _⟩ := r.top
    exact ⟨⟨f, h⟩, r.pop⟩
  | s i =>
    obtain ⟨w, f, hw, h, _⟩ := slot_get r hg
    rw [show σ[i]? = some (some v) from ha] at hw
    cases hw
    exact ⟨⟨f, h⟩, r⟩
theorem RS.appPop {T1 T2 : Ts} (r : RS W Z F P e (T1 ++ T2) σ H) : RS W Z F P e T2 σ H := by
  induction T1 with
  | nil => exact r
  | cons x T1 ih => exact ih r.pop
theorem XOk.pops {T1 : Ts} {c ps} (h : XOk W Wo Z F P T σ H c ps e) : XOk W Wo Z F P (T1 ++ T) σ H c ps e :=
  fun Z2 F2 H2 C dd hc py s2 r => h Z2 F2 H2 C dd hc py s2 r.appPop
theorem rd2 {f : O → O → Option O} {r : V → V → Hp → VK → Prop} {da db : En → Rs Ar} (hf : BinOk W f r) (h : rdE W Wo (dBin f da db) σ H Q) :
    rdV W Wo da σ H fun v H1 => rdV W Wo db σ H1 fun u H2 => r v u H2 Q := by
  obtain ⟨Z, F, P, e, T, r0, k⟩ := h
  refine ⟨Z, F, P, e, T, r0, ?_⟩
  unfold dBin at k
  cases qa : da e with
  | bad => rw [qa] at k; exact k
  | exc c ps e' => rw [qa] at k; exact k
  | ok x e1 =>
    intro v Z1 F1 H1 s1 r1 a1
    rw [qa] at k
    refine ⟨Z1, F1, P, e1, x.tmp v ++ T, r1, ?_⟩
    simp only [Rs.bind] at k
    cases qb : db e1 with
    | bad => rw [qb] at k; exact k
    | exc c ps e' => rw [qb] at k; exact XOk.pops (XOk.step s1 k)
    | ok y e2 =>
      intro u Z2 F2 H2 s2 r2 a2
      rw [qb] at k
      simp only [Rs.bind] at k
      cases gx : x.get e2 with
      | none => rw [gx] at k; exact k.elim
      | some a =>
        cases gy : y.get e2 with
        | none => rw [gx, gy] at k; exact k.elim
        | some b =>
          rw [gx, gy] at k
          obtain ⟨sb, r3⟩ := see_tmp r2 a2 gy
          obtain ⟨sa, r4⟩ := see_tmp r3 a1 gx
          cases qz : f a b with
          | none => simp only [fin, qz] at k; exact k.elim
          | some z =>
            simp only [fin, qz] at k
            exact hf Z2 F2 P e2 T σ H2 a b z v u Q qz sa sb r4 fun w Z' F' H' s3 r5 => k w Z' F' H' ((s1.trans s2).trans s3) r5
theorem he_op {a b : Expr} {op : Operator} {r} {f : O → O → Option O} {da db : En → Rs Ar} (ho : OpR X (binaryOp op) r) (hf : BinOk (Cx.wd X cl) f r) (ha : HV X cl Wo a da) (hb : HV X cl Wo b db) : HE X cl Wo (.BinOp a op b pos) (dBin f da db) :=
  PE.imp (pe_op ho ha hb) fun σ H Q h => rd2 hf h
theorem he_cmp {a b : Expr} {op : CmpOp} {r} {f : O → O → Option O} {da db : En → Rs Ar} (ho : OpR X (compareOp op) r) (hf : BinOk (Cx.wd X cl) f r) (ha : HV X cl Wo a da) (hb : HV X cl Wo b db) (hm : behindInMarks op b = false) : HE X cl Wo (.Compare a [op] [b] pos) (dBin f da db) :=
  PE.imp (pe_cmpR ho ha hb hm) fun σ H Q h => rd2 hf h
def dUn (f : O → Option O) (da : En → Rs Ar) : En → Rs O := fun e => (da e).bind fun x e1 => match x.get e1 with
  | some a => fin (f a) e1
  | none => .bad
def UnOk (W : Wd) (f : O → Option O) (r : V → Hp → VK → Prop) : Prop :=
  ∀ Z F P e T σ H a z v Q, f a = some z → See W H Z a v → RS W Z F P e T σ H → (∀ w Z' F' H', Stp Z F H Z' F' H' → RS W Z' F' P e ((z, w) :: T) σ H' → Q w H') → r v H Q
theorem rd1 {f : O → Option O} {r : V → Hp → VK → Prop} {da : En → Rs Ar} (hf : UnOk W f r) (h : rdE W Wo (dUn f da) σ H Q) : rdV W Wo da σ H fun v H1 => r v H1 Q := by
  obtain ⟨Z, F, P, e, T, r0, k⟩ := h
  refine ⟨Z, F, P, e, T, r0, ?_⟩
  unfold dUn at k
  cases qa : da e with
  | bad => rw [qa] at k; exact k
  | exc c ps e' => rw [qa] at k; exact k
  | ok x e1 =>
    intro v Z1 F1 H1 s1 r1 a1
    rw [qa] at k
    simp only [Rs.bind] at k
    cases gx : x.get e1 with
    | none => rw [gx] at k; exact k.elim
    | some a =>
      rw [gx] at k
      obtain ⟨sa, r4⟩ := see_tmp r1 a1 gx
      cases qz : f a with
      | none => simp only [fin, qz] at k; exact k.elim
      | some z =>
        simp only [fin, qz] at k
        exact hf Z1 F1 P e1 T σ H1 a z v Q qz sa r4 fun w Z' F' H' s3 r5 => k w Z' F' H' (s1.trans s3) r5
theorem he_un {a : Expr} {op : UnaryOp} {r} {f : O → Option O} {da : En → Rs Ar} (ho : UnR X (unaryOp op) r) (hf : UnOk (Cx.wd X cl) f r) (ha : HV X cl Wo a da) : HE X cl Wo (.UnaryOp op a pos) (dUn f da) :=
  PE.imp (pe_un ho ha) fun σ H Q h => rd1 hf h
theorem done_leaf {x : D} {w : V} (r : RS W Z F P e T σ H) (h : ∀ H Z, RD W H Z x w) (k : ∀ w Z' F' H', Stp Z F H Z' F' H' → RS W Z' F' P e ((.d x, w) :: T) σ H' → Q w H') : Q w H := k w Z F H .refl (r.push (h H Z))
end
end MX
namespace MX
open PySem L2
section
variable {X : Cx} {cl : Cl} {Wo : WX} {pos : Pos}
variable {W : Wd} {Z F Z' F' : Addr → Prop} {P : Nat → V} {e : En} {T : Ts} {σ : L2.St} {H H' : Hp} {Q : VK}
theorem See.all {o : O} {v : V} (h : See W H Z o v) : RD W H (fun _ => True) o.fz v := h.elim fun f h => h.frozen (fun _ _ => trivial) _ _ _ fun _ _ => trivial
def leafs : List O → Option (List D)
  | [] => some []
  | .d x :: r => (leafs r).map (x :: ·)
  | _ :: _ => none
theorem leafs_map : ∀ xs : List D, leafs (xs.map O.d) = some xs
  | [] => rfl
  | x :: xs => by show (leafs (xs.map O.d)).map (x :: ·) = some (x :: xs); rw [leafs_map xs]; rfl
theorem leafs_eq : ∀ {os : List O} {ds : List D}, leafs os = some ds → os = ds.map O.d
  | [], ds, h => by
    have : [] = ds := Option.some.inj h
    subst this; rfl
  | .d x :: r, ds, h => by
    cases q : leafs r with
    | none => simp [leafs, q] at h
    | some es =>
      simp only [leafs, q, Option.map_some, Option.some.injEq] at h
      subst h
      rw [leafs_eq q]; rfl
  | .lst _ :: _, _, h => by cases h
  | .dic _ _ :: _, _, h => by cases h
  | .obj _ _ _ :: _, _, h => by cases h
theorem ROs.rds : ∀ {ds : List D} {vs : List V} {f : List Addr}, ROs W H Z (ds.map O.d) vs f → RDs W H Z ds vs
  | [], _, _, ⟨e, _⟩ => e
  | d :: ds, vs, f, ⟨v, r, f1, f2, e, _, h1, h2⟩ => ⟨v, r, e, h1.1, ROs.rds h2⟩
def O.ls : O → Option (List D)
  | .lst os => leafs os
  | .d (.lst ds) => some ds
  | _ => none
def O.tp : O → Option (List D)
  | .d (.tup ds) => some ds
  | _ => none
theorem See.list {o : O} {v : V} {ds : List D} (h : See W H Z o v) (q : o.ls = some ds) : ∃ a vs, v = .ref a ∧ SqL W.K H a vs ∧ RDs W H Z ds vs := by
  obtain ⟨f, h⟩ := h
  cases o with
  | lst os =>
    obtain ⟨a, vs, f', e, hh, ef, r⟩ := h
    rw [leafs_eq q] at r
    exact ⟨a, vs, e, .inl (.inl hh), r.rds⟩
  | d x =>
    cases x with
    | lst es =>
      have : es = ds := Option.some.inj q
      subst this
      obtain ⟨⟨a, vs, e, hh, r⟩, _⟩ := h
      exact ⟨a, vs, e, .inl hh.2, r⟩
    | _ => cases q
  | _ => cases q
theorem See.tuple {o : O} {v : V} {ds : List D} (h : See W H Z o v) (q : o.tp = some ds) : ∃ a vs, v = .ref a ∧ SqT W.K H a vs ∧ RDs W H Z ds vs := by
  obtain ⟨f, h⟩ := h
  cases o with
  | d x =>
    cases x with
    | tup es =>
      have : es = ds := Option.some.inj q
      subst this
      obtain ⟨⟨a, vs, e, hh, r⟩, _⟩ := h
      exact ⟨a, vs, e, hh.sq, r⟩
    | _ => cases q
  | _ => cases q
theorem See.int {i : Int} {v : V} (h : See W H Z (.d (.int i)) v) : v = .int i := h.d
theorem See.str {i : Str} {v : V} (h : See W H Z (.d (.str i)) v) : v = .str i := h.d
theorem See.bl {i : Bool} {v : V} (h : See W H Z (.d (.bl i)) v) : v = .bl i := h.d
theorem RS.newL {ds : List D} {vs : List V} {p : Addr} (r : RS W Z F P e T σ H) (h : RDs W H Z ds vs) (hp : H p = none) : RS W Z (fun a => F a ∨ a = p) P e ((.lst (ds.map O.d), .ref p) :: T) σ (upd H p (.lst vs)) := by
  obtain ⟨⟨fe, ft, h1, h2, nd, hF⟩, sep, zin, fin, pin, px⟩ := r
  have k := same_upd (o := .lst vs) hp
  have kp : Kp H Z (upd H p (.lst vs)) Z := ⟨fun _ h => h, fun a o _ h => k a o h, fun a _ h => k a _ h, fun a _ _ h => k a _ h⟩
  have pF : ∀ a, F a → a ≠ p := fun a fa z => by subst z; exact notMut_none hp (fin a fa)
  refine ⟨⟨fe, p :: ft, h1.keep kp _ _ _ fun a _ u q => k a u q, ⟨.ref p, _, [p], ft, rfl, rfl, ⟨p, vs, [], rfl, upd_same, rfl, (h.keep kp).ros⟩, h2.keep kp _ _ _ fun a _ u q => k a u q⟩, ?_, fun a ha => ?_⟩, fun a ha z => ?_, fun a z q => ?_, fun a ha => ?_, pin, px⟩
  · rw [List.perm_middle.nodup_iff, List.nodup_cons]
    exact ⟨fun z => pF p (hF p z) rfl, nd⟩
  · rcases List.mem_append.mp ha with q | q
    · exact .inl (hF a (List.mem_append_left _ q))
    · rcases List.mem_cons.mp q with q | q
      · exact .inr q
      · exact .inl (hF a (List.mem_append_right _ q))
  · rcases ha with ha | ha
    · exact sep a ha z
    · subst ha; exact zin a z hp
  · exact dom_upd a (zin a z) q
  · rcases ha with ha | ha
    · rw [upd_ne (pF a ha)]; exact fin a ha
    · rw [ha, upd_same]; trivial
theorem RS.newT {ds : List D} {vs : List V} {p : Addr} {o : Obj} (r : RS W Z F P e T σ H) (h : RDs W H Z ds vs) (hp : H p = none) (ho : o.dict = none) : RS W Z F P e ((.d (.tup ds), .ref p) :: T) σ (upd H p (.frz o (.tup vs))) := by
  have k := same_upd (o := .frz o (.tup vs)) hp
  have kp : Kp H Z (upd H p (.frz o (.tup vs))) Z := ⟨fun _ h => h, fun a o _ h => k a o h, fun a _ h => k a _ h, fun a _ _ h => k a _ h⟩
  exact (r.grow k).push ⟨p, vs, rfl, .inl ⟨o, upd_same, ho⟩, h.keep kp⟩
theorem BinOk.or {f g : O → O → Option O} {r r' : V → V → Hp → VK → Prop} (a : BinOk W f r) (b : BinOk W g r') : BinOk W (fun x y => match f x y with | some z => some z | none => g x y) (fun x y H Q => r x y H Q ∨ r' x y H Q) := by
  intro Z F P e T σ H x y z v u Q hf sa sb rs k
  cases q : f x y with
  | some w => simp only [q] at hf; exact .inl (a Z F P e T σ H x y w v u Q q sa sb rs (by rw [Option.some.inj hf]; exact k))
  | none => simp only [q] at hf; exact .inr (b Z F P e T σ H x y z v u Q hf sa sb rs k)
theorem UnOk.or {f g : O → Option O} {r r' : V → Hp → VK → Prop} (a : UnOk W f r) (b : UnOk W g r') : UnOk W (fun x => match f x with | some z => some z | none => g x) (fun x H Q => r x H Q ∨ r' x H Q) := by
  intro Z F P e T σ H x z v Q hf sa rs k
  cases q : f x with
  | some w => simp only [q] at hf; exact .inl (a Z F P e T σ H x w v Q q sa rs (by rw [Option.some.inj hf]; exact k))
  | none => simp only [q] at hf; exact .inr (b Z F P e T σ H x z v Q hf sa rs k)
def onI (g : Int → Int → Option D) : O → O → Option O
  | .d (.int i), .d (.int j) => (g i j).map .d
  | _, _ => none
theorem onI_some {g : Int → Int → Option D} {a b z : O} (h : onI g a b = some z) : ∃ i j x, a = .d (.int i) ∧ b = .d (.int j) ∧ g i j = some x ∧ z = .d x := by
  unfold onI at h
  split at h
  · rename_i i j
    cases q : g i j with
    | none => rw [q] at h; cases h
    | some x => rw [q] at h; exact ⟨i, j, x, rfl, rfl, q, (Option.some.inj h).symm⟩
  · cases h
theorem binI {C : Int → Int → Prop} {k : Int → Int → V} {g : Int → Int → Option D} (hg : ∀ i j x, g i j = some x → C i j ∧ ∀ H Z, RD W H Z x (k i j)) : BinOk W (onI g) (rI C k) := by
  intro Z F P e T σ H a b z v u Q hf sa sb rs kk
  obtain ⟨i, j, x, rfl, rfl, hx, rfl⟩ := onI_some hf
  obtain ⟨hC, hR⟩ := hg i j x hx
  exact ⟨i, j, sa.int, sb.int, hC, done_leaf rs hR kk⟩
theorem binI0 {k : Int → Int → V} {g : Int → Int → D} (hg : ∀ i j H Z, RD W H Z (g i j) (k i j)) : BinOk W (onI fun i j => some (g i j)) (rI0 k) := by
  intro Z F P e T σ H a b z v u Q hf sa sb rs kk
  obtain ⟨i, j, x, rfl, rfl, hx, rfl⟩ := onI_some hf
  have : g i j = x := Option.some.inj hx
  subst this
  exact ⟨i, j, sa.int, sb.int, done_leaf rs (hg i j) kk⟩
def fSub : O → O → Option O := onI fun i j => some (.int (i - j))
theorem bSub : BinOk W fSub (rI0 fun i j => .int (i - j)) := binI0 fun _ _ _ _ => rfl
def fMod : O → O → Option O := onI fun i j => if 0 < j then some (.int (i % j)) else none
theorem bMod : BinOk W fMod (rI (fun _ j => 0 < j) fun i j => .int (i % j)) := binI fun i j x h => by
  split at h
  · rename_i q; cases h; exact ⟨q, fun _ _ => rfl⟩
  · cases h
def fDiv : O → O → Option O := onI fun i j => if 0 < j then if j.natAbs.log2 < 9000 then some (.int (i / j)) else none else none
theorem bDiv : BinOk W fDiv (rI CDivW fun i j => .int (i / j)) := binI fun i j x h => by
  split at h
  · rename_i q
    split at h
    · rename_i q'; cases h; exact ⟨⟨q, q'⟩, fun _ _ => rfl⟩
    · cases h
  · cases h
def isSm (i : Int) : Bool := decide (-(2 ^ 64) < i) && decide (i < 2 ^ 64)
theorem isSm_of {i : Int} (h : isSm i = true) : -(2 ^ 64) < i ∧ i < 2 ^ 64 := by
  unfold isSm at h
  rw [Bool.and_eq_true] at h
  exact ⟨of_decide_eq_true h.1, of_decide_eq_true h.2⟩
def fMulS : O → O → Option O := onI fun i j => if (isSm i || isSm j) = true then some (.int (i * j)) else none
theorem bMulS : BinOk W fMulS (rI CMul fun i j => .int (i * j)) := binI fun i j x h => by
  split at h
  · rename_i q
    cases h
    rw [Bool.or_eq_true] at q
    exact ⟨q.imp isSm_of isSm_of, fun _ _ => rfl⟩
  · cases h
def fMulW : O → O → Option O := onI fun i j => if i.natAbs.log2 + j.natAbs.log2 < 1000000 then some (.int (i * j)) else none
theorem bMulW : BinOk W fMulW (rI CMulW fun i j => .int (i * j)) := binI fun i j x h => by
  split at h
  · rename_i q; cases h; exact ⟨q, fun _ _ => rfl⟩
  · cases h
def fPow : O → O → Option O := onI fun i j => if 0 ≤ j ∧ j ≤ 1000000 ∧ i.natAbs < 2 ^ 64 then some (.int (i ^ j.toNat)) else none
theorem bPow : BinOk W fPow (rI CPow fun i j => .int (i ^ j.toNat)) := binI fun i j x h => by
  split at h
  · rename_i q; cases h; exact ⟨q, fun _ _ => rfl⟩
  · cases h
def fLt : O → O → Option O := onI fun i j => some (.bl (decide (i < j)))
theorem bLt : BinOk W fLt (rI0 fun i j => .bl (decide (i < j))) := binI0 fun _ _ _ _ => rfl
def fLe : O → O → Option O := onI fun i j => some (.bl (decide (i ≤ j)))
theorem bLe : BinOk W fLe (rI0 fun i j => .bl (decide (i ≤ j))) := binI0 fun _ _ _ _ => rfl
def fGt : O → O → Option O := onI fun i j => some (.bl (decide (j < i)))
theorem bGt : BinOk W fGt (rI0 fun i j => .bl (decide (j < i))) := binI0 fun _ _ _ _ => rfl
def fGe : O → O → Option O := onI fun i j => some (.bl (decide (j ≤ i)))
def fNeg : O → Option O
  | .d (.int i) => some (.d (.int (-i)))
  | _ => none
theorem uNeg : UnOk W fNeg (rU fun i => .int (-i)) := by
  intro Z F P e T σ H a z v Q hf sa rs k
  unfold fNeg at hf
  split at hf
  · rename_i i
    cases hf
    exact ⟨_, sa.int, done_leaf (x := .int (-i)) rs (fun _ _ => rfl) k⟩
  · cases hf
def fAddI : O → O → Option O := onI fun i j => some (.int (i + j))
theorem bAddI : BinOk W fAddI (rI0 fun i j => .int (i + j)) := binI0 fun _ _ _ _ => rfl
def fAddS : O → O → Option O
  | .d (.str s), .d (.str t) => if s.length + t.length ≤ sizeLine then some (.d (.str (s ++ t))) else none
  | _, _ => none
theorem bAddS : BinOk W fAddS (fun x y H Q => ∃ i j, x = .str i ∧ y = .str j ∧ i.length + j.length ≤ sizeLine ∧ Q (.str (i ++ j)) H) := by
  intro Z F P e T σ H a b z v u Q hf sa sb rs k
  unfold fAddS at hf
  split at hf
  · rename_i s t
    split at hf
    · rename_i q; cases hf
      exact ⟨_, _, sa.str, sb.str, q, done_leaf (x := .str (s ++ t)) rs (fun _ _ => rfl) k⟩
    · cases hf
  · cases hf
def fCat : O → O → Option O := fun a b => match a.ls, b.ls with
  | some xs, some ys => if xs.length + ys.length ≤ sizeLine then some (.lst ((xs ++ ys).map .d)) else none
  | _, _ => none
theorem See.listR {o : O} {v : V} {ds : List D} (h : See W H Z o v) (q : o.ls = some ds) : ∃ a vs, v = .ref a ∧ Rd H a (.lst vs) ∧ RDs W H Z ds vs := by
  obtain ⟨f, h⟩ := h
  cases o with
  | lst os =>
    obtain ⟨a, vs, f', e, hh, ef, r⟩ := h
    rw [leafs_eq q] at r
    exact ⟨a, vs, e, .inl hh, r.rds⟩
  | d x =>
    cases x with
    | lst es =>
      have : es = ds := Option.some.inj q
      subst this
      obtain ⟨⟨a, vs, e, hh, r⟩, _⟩ := h
      exact ⟨a, vs, e, hh.2, r⟩
    | _ => cases q
  | _ => cases q
def rCatR : R2 := fun x y H Q => ∃ a b xs ys, x = .ref a ∧ y = .ref b ∧ Rd H a (.lst xs) ∧ Rd H b (.lst ys) ∧ xs.length + ys.length ≤ sizeLine ∧ ∀ p, H p = none → Q (.ref p) (upd H p (.lst (xs ++ ys)))
theorem op_catR : OpR X (binaryOp .Add) rCatR := by
  intro pins s σ H x y v u Q I rx ry h
  obtain ⟨l, b, xs, zs, rfl, rfl, hH, hB, hz, q⟩ := h
  cases rx
  cases ry
  obtain ⟨z, its, n, r, e⟩ := hH.ok I.hok
  obtain ⟨z2, its2, n2, r2, e2⟩ := hB.ok I.hok
  have hl := r.length
  have hl2 := r2.length
  refine PySem.P.add_list e e2 ?_ (by rw [List.size_toArray, List.size_toArray]; omega)
  have ea : its.toArray ++ its2.toArray = (its ++ its2).toArray := by simp
  rw [ea]
  exact ⟨.ref _, _, I.lnew (t' := s.toks) (r.append r2) (by rw [List.length_append]; omega), rfl, q _ I.fresh⟩
theorem bCat : BinOk W fCat rCatR := by
  intro Z F P e T σ H a b z v u Q hf sa sb rs k
  unfold fCat at hf
  split at hf
  · rename_i xs ys hx hy
    split at hf
    · rename_i q; cases hf
      obtain ⟨p, vs, e1, h1, r1⟩ := sa.listR hx
      obtain ⟨p', us, e2, h2, r2⟩ := sb.listR hy
      refine ⟨p, p', vs, us, e1, e2, h1, h2, by rw [← r1.len, ← r2.len]; exact q, fun c hc => k _ _ _ _ (Stp.allocF hc) (rs.newL (r1.append r2) hc)⟩
    · cases hf
  · cases hf
def fCatT : O → O → Option O := fun a b => match a.tp, b.tp with
  | some xs, some ys => if xs.length + ys.length ≤ sizeLine then some (.d (.tup (xs ++ ys))) else none
  | _, _ => none
theorem bCatT : BinOk W fCatT (rCatN W.K) := by
  intro Z F P e T σ H a b z v u Q hf sa sb rs k
  unfold fCatT at hf
  split at hf
  · rename_i xs ys hx hy
    split at hf
    · rename_i q; cases hf
      obtain ⟨p, vs, e1, h1, r1⟩ := sa.tuple hx
      obtain ⟨p', us, e2, h2, r2⟩ := sb.tuple hy
      have d1 : RD W H Z (.tup xs) v := by
        cases a with
        | d x =>
          cases x with
          | tup es =>
            have : es = xs := Option.some.inj hx
            subst this; exact sa.d
          | _ => cases hx
        | _ => cases hx
      have d2 : RD W H Z (.tup ys) u := by
        cases b with
        | d x =>
          cases x with
          | tup es =>
            have : es = ys := Option.some.inj hy
            subst this; exact sb.d
          | _ => cases hy
        | _ => cases hy
      refine ⟨p, p', vs, us, e1, e2, h1, h2, by rw [← r1.len, ← r2.len]; exact q, fun hv => ?_, fun hv hu => ?_, fun hv hu c o hc ho => k _ _ _ _ (Stp.alloc hc) (rs.newT (r1.append r2) hc ho)⟩
      · subst hv
        have : xs = [] := List.length_eq_zero_iff.mp r1.len
        subst this
        exact k _ _ _ _ .refl (rs.push (by rw [← e2]; exact d2))
      · subst hu
        have : ys = [] := List.length_eq_zero_iff.mp r2.len
        subst this
        exact k _ _ _ _ .refl (rs.push (by rw [← e1, List.append_nil]; exact d1))
    · cases hf
  · cases hf
def fIxL : O → O → Option O
  | a, .d (.int i) => match a.ls with
    | some xs => (atI xs i).map .d
    | none => none
  | _, _ => none
theorem atI_map {α β : Type} {R : α → β → Prop} {xs : List α} {ys : List β} (hl : xs.length = ys.length) (h : ∀ (j : Nat) x, xs[j]? = some x → ∃ y, ys[j]? = some y ∧ R x y) {i : Int} {x : α} (e : atI xs i = some x) : ∃ y, atI ys i = some y ∧ R x y := by
  unfold atI at *
  cases q : ixN xs.length i with
  | none => rw [q] at e; cases e
  | some j =>
    rw [q] at e
    obtain ⟨y, hy, r⟩ := h j x e
    exact ⟨y, by rw [← hl, q]; exact hy, r⟩
theorem bIxL : BinOk W fIxL (rIxL W.K) := by
  intro Z F P e T σ H a b z v u Q hf sa sb rs k
  unfold fIxL at hf
  split at hf
  · split at hf
    · rename_i xs hx
      cases q : atI xs ‹Int› with
      | none => rw [q] at hf; cases hf
      | some x =>
        rw [q] at hf; cases hf
        obtain ⟨p, vs, e1, h1, r1⟩ := sa.list hx
        obtain ⟨y, hy, ry⟩ := atI_map r1.len (fun j x hx => r1.get hx) q
        exact ⟨p, vs, _, y, e1, sb.int, h1, hy, k _ _ _ _ .refl (rs.push ry)⟩
    · cases hf
  · cases hf
def fIxT : O → O → Option O
  | a, .d (.int i) => match a.tp with
    | some xs => (atI xs i).map .d
    | none => none
  | _, _ => none
theorem bIxT : BinOk W fIxT (rIxT W.K) := by
  intro Z F P e T σ H a b z v u Q hf sa sb rs k
  unfold fIxT at hf
  split at hf
  · split at hf
    · rename_i xs hx
      cases q : atI xs ‹Int› with
      | none => rw [q] at hf; cases hf
      | some x =>
        rw [q] at hf; cases hf
        obtain ⟨p, vs, e1, h1, r1⟩ := sa.tuple hx
        obtain ⟨y, hy, ry⟩ := atI_map r1.len (fun j x hx => r1.get hx) q
        exact ⟨p, vs, _, y, e1, sb.int, h1, hy, k _ _ _ _ .refl (rs.push ry)⟩
    · cases hf
  · cases hf
def fIxS : O → O → Option O
  | .d (.str s), .d (.int i) => if s.length ≤ sizeLine then (atI s.cps.toList i).map fun c => .d (.str ⟨#[c]⟩) else none
  | _, _ => none
theorem bIxS : BinOk W fIxS rIxS := by
  intro Z F P e T σ H a b z v u Q hf sa sb rs k
  unfold fIxS at hf
  split at hf
  · rename_i s i
    split at hf
    · rename_i hl
      cases q : atI s.cps.toList i with
      | none => rw [q] at hf; cases hf
      | some x =>
        rw [q] at hf; cases hf
        exact ⟨_, _, x, sa.str, sb.int, hl, q, done_leaf (x := .str ⟨#[x]⟩) rs (fun _ _ => rfl) k⟩
    · cases hf
  · cases hf
theorem he_ix {a b : Expr} {r} {f : O → O → Option O} {da db : En → Rs Ar} (ho : IxR X r) (hf : BinOk (Cx.wd X cl) f r) (ha : HV X cl Wo a da) (hb : HV X cl Wo b db) (hs : PlainIx b) : HE X cl Wo (.Subscript a b pos) (dBin f da db) :=
  PE.imp (pe_ix ho ha hb hs) fun σ H Q h => rd2 hf h
end
end MX
namespace MX
open PySem L2
section
variable {X : Cx} {cl : Cl} {Wo : WX} {pos : Pos}
variable {W : Wd} {Z F Z' F' : Addr → Prop} {P : Nat → V} {e : En} {T : Ts} {σ : L2.St} {H H' : Hp} {Q : VK}
def dTst (d : En → Rs O) : En → Rs Bool := fun e => (d e).bind fun o e1 => match o with
  | .d (.bl b) => .ok b e1
  | _ => .bad
theorem rdT_of {d : En → Rs O} {Q : Bool → Hp → Prop} (h : rdT W Wo (dTst d) σ H Q) : rdE W Wo d σ H fun z H' => ∃ k, z = .bl k ∧ Q k H' := by
  obtain ⟨Z, F, P, e, T, r0, k⟩ := h
  refine ⟨Z, F, P, e, T, r0, ?_⟩
  unfold dTst at k
  cases q : d e with
  | bad => rw [q] at k; exact k
  | exc c ps e' => rw [q] at k; exact k
  | ok o e1 =>
    rw [q] at k
    simp only [Rs.bind] at k
    intro v Z1 F1 H1 s1 r1
    cases o with
    | d x =>
      cases x with
      | bl b => exact ⟨b, r1.topD, k Z1 F1 H1 s1 r1.pop⟩
      | _ => exact k.elim
    | _ => exact k.elim
theorem ht_val {ex : Expr} {d : En → Rs O} (h : HE X cl Wo ex d) (he : ∀ whole, isTrue ex X.env whole = (do let v ← whole; standAt ex.pos; holding [v] (truthy v)) := by intro _; rfl) : HT X cl Wo ex (dTst d) :=
  PT.imp (pt_val h he) fun σ H Q h => rdT_of h
theorem ht_cmp {a b : Expr} {op : CmpOp} {r} {f : O → O → Option O} {da db : En → Rs Ar} (ho : OpR X (compareOp op) r) (hf : BinOk (Cx.wd X cl) f r) (ha : HV X cl Wo a da) (hb : HV X cl Wo b db) (hm : behindInMarks op b = false) : HT X cl Wo (.Compare a [op] [b] pos) (dTst (dBin f da db)) :=
  PT.imp (pt_cmpR ho ha hb hm) fun σ H Q h => rd2 hf (rdT_of h)
def dChain (f g : O → O → Option O) (da db dc : En → Rs Ar) : En → Rs O := fun e => (da e).bind fun x e1 => (db e1).bind fun y e2 => match x.get e2, y.get e2 with
  | some a, some b => match f a b with
    | some (.d (.bl true)) => (dc e2).bind fun z e3 => match y.get e3, z.get e3 with
      | some b', some c => fin (g b' c) e3
      | _, _ => .bad
    | some (.d (.bl false)) => .ok (.d (.bl false)) e2
    | _ => .bad
  | _, _ => .bad
theorem rdChain {f g : O → O → Option O} {r r' : V → V → Hp → VK → Prop} {da db dc : En → Rs Ar} (hf : BinOk W f r) (hg : BinOk W g r') (h : rdE W Wo (dChain f g da db dc) σ H Q) :
    rdV W Wo da σ H fun v H1 => rdV W Wo db σ H1 fun u H2 => r v u H2 fun z H3 => ∃ k, z = .bl k ∧ (if k = true then rdV W Wo dc σ H3 fun w' H4 => r' u w' H4 Q else Q (.bl false) H3) := by
  obtain ⟨Z, F, P, e, T, r0, k⟩ := h
  refine ⟨Z, F, P, e, T, r0, ?_⟩
  unfold dChain at k
  cases qa : da e with
  | bad => rw [qa] at k; exact k
  | exc c ps e' => rw [qa] at k; exact k
  | ok x e1 =>
    intro v Z1 F1 H1 s1 r1 a1
    rw [qa] at k
    refine ⟨Z1, F1, P, e1, x.tmp v ++ T, r1, ?_⟩
    simp only [Rs.bind] at k
    cases qb : db e1 with
    | bad => rw [qb] at k; exact k
    | exc c ps e' => rw [qb] at k; exact XOk.pops (XOk.step s1 k)
    | ok y e2 =>
      intro u Z2 F2 H2 s2 r2 a2
      rw [qb] at k
      simp only [Rs.bind] at k
      cases gx : x.get e2 with
      | none => rw [gx] at k; exact k.elim
      | some a =>
        cases gy : y.get e2 with
        | none => rw [gx, gy] at k; exact k.elim
        | some b =>
          rw [gx, gy] at k
          obtain ⟨sb, r3⟩ := see_tmp r2 a2 gy
          obtain ⟨sa, r4⟩ := see_tmp r3 a1 gx
          cases qz : f a b with
          | none => simp only [qz] at k; exact k.elim
          | some z =>
            simp only [qz] at k
            refine hf Z2 F2 P e2 (y.tmp u ++ (x.tmp v ++ T)) σ H2 a b z v u _ qz sa sb r2 fun w Z3 F3 H3 s3 r5 => ?_
            cases z with
            | d zz =>
              cases zz with
              | bl bb =>
                refine ⟨bb, r5.topD, ?_⟩
                have r6 := r5.pop
                cases bb with
                | false =>
                  refine iteF ?_
                  exact k _ Z3 F3 H3 ((s1.trans s2).trans s3) ((r6.appPop).appPop.push (x := .bl false) (v := .bl false) rfl)
                | true =>
                  refine iteT ?_
                  refine ⟨Z3, F3, P, e2, y.tmp u ++ (x.tmp v ++ T), r6, ?_⟩
                  cases qc : dc e2 with
                  | bad => rw [qc] at k; exact k.elim
                  | exc c ps e' => rw [qc] at k; exact XOk.pops (XOk.pops (XOk.step ((s1.trans s2).trans s3) k))
                  | ok zc e3 =>
                    rw [qc] at k
                    simp only [Rs.bind] at k
                    intro w' Z4 F4 H4 s4 r7 a3
                    cases gy' : y.get e3 with
                    | none => rw [gy'] at k; exact k.elim
                    | some b' =>
                      cases gz : zc.get e3 with
                      | none => rw [gy', gz] at k; exact k.elim
                      | some c =>
                        rw [gy', gz] at k
                        obtain ⟨sc, r8⟩ := see_tmp r7 a3 gz
                        obtain ⟨sb', r9⟩ := see_tmp r8 a2 gy'
                        cases qg : g b' c with
                        | none => simp only [fin, qg] at k; exact k.elim
                        | some zg =>
                          simp only [fin, qg] at k
                          exact hg Z4 F4 P e3 T σ H4 b' c zg u w' Q qg sb' sc r9.appPop fun w5 Z5 F5 H5 s5 r10 => k w5 Z5 F5 H5 ((((s1.trans s2).trans s3).trans s4).trans s5) r10
              | _ => exact k.elim
            | _ => exact k.elim
theorem he_chain {a b c : Expr} {op op' : CmpOp} {r r'} {f g : O → O → Option O} {da db dc : En → Rs Ar} (ho : OpR X (compareOp op) r) (ho' : OpR X (compareOp op') r') (hf : BinOk (Cx.wd X cl) f r) (hg : BinOk (Cx.wd X cl) g r')
    (h : PE X (.Compare a [op, op'] [b, c] pos) (tChain r r' (rdV (Cx.wd X cl) Wo da) (rdV (Cx.wd X cl) Wo db) (rdV (Cx.wd X cl) Wo dc))) : HE X cl Wo (.Compare a [op, op'] [b, c] pos) (dChain f g da db dc) :=
  PE.imp h fun σ H Q h => rdChain hf hg h
theorem ht_chain {a b c : Expr} {op op' : CmpOp} {r r'} {f g : O → O → Option O} {da db dc : En → Rs Ar} (ho : OpR X (compareOp op) r) (ho' : OpR X (compareOp op') r') (hf : BinOk (Cx.wd X cl) f r) (hg : BinOk (Cx.wd X cl) g r')
    (h : PT X (.Compare a [op, op'] [b, c] pos) (tTest (tChain r r' (rdV (Cx.wd X cl) Wo da) (rdV (Cx.wd X cl) Wo db) (rdV (Cx.wd X cl) Wo dc)))) : HT X cl Wo (.Compare a [op, op'] [b, c] pos) (dTst (dChain f g da db dc)) :=
  PT.imp h fun σ H Q h => rdChain hf hg (rdT_of h)
def HW (X : Cx) (cl : Cl) (Wo : WX) (e : Expr) (d : En → Rs Bool) : Prop := PW X e (rdT (Cx.wd X cl) Wo d)
def dAndT (a b : En → Rs Bool) : En → Rs Bool := fun e => (a e).bind fun k e1 => if k = true then b e1 else .ok false e1
def dOrT (a b : En → Rs Bool) : En → Rs Bool := fun e => (a e).bind fun k e1 => if k = true then .ok true e1 else b e1
def dNotT (a : En → Rs Bool) : En → Rs Bool := fun e => (a e).bind fun k e1 => .ok (!k) e1
theorem rdT_step {a : En → Rs Bool} {g : Bool → En → Rs Bool} {K : Bool → Hp → Prop} {Q : Bool → Hp → Prop} (h : rdT W Wo (fun e => (a e).bind g) σ H Q) (hk : ∀ b H1, rdT W Wo (g b) σ H1 Q → K b H1) : rdT W Wo a σ H K := by
  obtain ⟨Z, F, P, e, T, r0, k⟩ := h
  refine ⟨Z, F, P, e, T, r0, ?_⟩
  cases qa : a e with
  | bad => simp only [qa] at k; exact k
  | exc c ps e' => simp only [qa] at k; exact k
  | ok b e1 =>
    simp only [qa, Rs.bind] at k
    intro Z1 F1 H1 s1 r1
    refine hk b H1 ⟨Z1, F1, P, e1, T, r1, ?_⟩
    cases qb : g b e1 with
    | bad => rw [qb] at k; exact k
    | exc c ps e' => rw [qb] at k; exact XOk.step s1 k
    | ok b' e2 => rw [qb] at k; exact fun Z2 F2 H2 s2 r2 => k Z2 F2 H2 (s1.trans s2) r2
theorem rdT_ok {b : Bool} {Q : Bool → Hp → Prop} (h : rdT W Wo (fun e => .ok b e) σ H Q) : Q b H := by
  obtain ⟨Z, F, P, e, T, r0, k⟩ := h
  exact k Z F H .refl r0
theorem hw_and1 {a : Expr} {d} (h : HT X cl Wo a d) : HW X cl Wo (.BoolOp .And [a] pos) d := pw_and1 h
theorem hw_or1 {a : Expr} {d} (h : HT X cl Wo a d) : HW X cl Wo (.BoolOp .Or [a] pos) d := pw_or1 h
theorem hw_and {a b : Expr} {rest : List Expr} {d d'} (h : HT X cl Wo a d) (h' : HW X cl Wo (.BoolOp .And (b :: rest) pos) d') : HW X cl Wo (.BoolOp .And (a :: b :: rest) pos) (dAndT d d') :=
  PW.imp (pw_and h h') fun σ H Q h => rdT_step h fun b H1 q => by
    cases b with
    | true => exact iteT q
    | false => exact iteF (rdT_ok q)
theorem hw_or {a b : Expr} {rest : List Expr} {d d'} (h : HT X cl Wo a d) (h' : HW X cl Wo (.BoolOp .Or (b :: rest) pos) d') : HW X cl Wo (.BoolOp .Or (a :: b :: rest) pos) (dOrT d d') :=
  PW.imp (pw_or h h') fun σ H Q h => rdT_step h fun b H1 q => by
    cases b with
    | true => exact iteT (rdT_ok q)
    | false => exact iteF q
theorem ht_w {ex : Expr} {d} (h : HW X cl Wo ex d) : HT X cl Wo ex d := PW.pt h
theorem ht_not {a : Expr} {d} (h : HT X cl Wo a d) : HT X cl Wo (.UnaryOp .Not a pos) (dNotT d) :=
  PT.imp (pt_not h) fun σ H Q h => rdT_step h fun b H1 q => rdT_ok q
def dAndV (a b : En → Rs O) : En → Rs O := fun e => (dTst a e).bind fun k e1 => if k = true then b e1 else .ok (.d (.bl false)) e1
def dOrV (a b : En → Rs O) : En → Rs O := fun e => (dTst a e).bind fun k e1 => if k = true then .ok (.d (.bl true)) e1 else b e1
def dNotV (a : En → Rs O) : En → Rs O := fun e => (dTst a e).bind fun k e1 => .ok (.d (.bl (!k))) e1
theorem rdT_stepE {a : En → Rs Bool} {g : Bool → En → Rs O} {K : Bool → Hp → Prop} {Q : VK} (h : rdE W Wo (fun e => (a e).bind g) σ H Q) (hk : ∀ b H1, rdE W Wo (g b) σ H1 Q → K b H1) : rdT W Wo a σ H K := by
  obtain ⟨Z, F, P, e, T, r0, k⟩ := h
  refine ⟨Z, F, P, e, T, r0, ?_⟩
  cases qa : a e with
  | bad => simp only [qa] at k; exact k
  | exc c ps e' => simp only [qa] at k; exact k
  | ok b e1 =>
    simp only [qa, Rs.bind] at k
    intro Z1 F1 H1 s1 r1
    refine hk b H1 ⟨Z1, F1, P, e1, T, r1, ?_⟩
    cases qb : g b e1 with
    | bad => rw [qb] at k; exact k
    | exc c ps e' => rw [qb] at k; exact XOk.step s1 k
    | ok b' e2 => rw [qb] at k; exact fun v Z2 F2 H2 s2 r2 => k v Z2 F2 H2 (s1.trans s2) r2
theorem rdE_leaf {x : D} {v : V} {Q : VK} (hv : ∀ H Z, RD W H Z x v) (h : rdE W Wo (fun e => .ok (.d x) e) σ H Q) : Q v H := by
  obtain ⟨Z, F, P, e, T, r0, k⟩ := h
  exact k v Z F H .refl (r0.push (hv H Z))
theorem he_one {a : Expr} {op} {d} (h : HE X cl Wo a d) : HE X cl Wo (.BoolOp op [a] pos) d := pe_one h
theorem he_and {a b : Expr} {rest : List Expr} {d d'} (h : HE X cl Wo a d) (h' : HE X cl Wo (.BoolOp .And (b :: rest) pos) d') : HE X cl Wo (.BoolOp .And (a :: b :: rest) pos) (dAndV d d') :=
  PE.imp (pe_and h h') fun σ H Q h => rdT_of (rdT_stepE h fun b H1 q => by
    cases b with
    | true => exact iteT q
    | false => exact iteF (rdE_leaf (x := .bl false) (fun _ _ => rfl) q))
theorem he_not {a : Expr} {d} (h : HE X cl Wo a d) : HE X cl Wo (.UnaryOp .Not a pos) (dNotV d) :=
  PE.imp (pe_not h) fun σ H Q h => rdT_of (rdT_stepE h fun b H1 q => rdE_leaf (x := .bl (!b)) (fun _ _ => rfl) q)
def dIf (c : En → Rs Bool) (a b : En → Rs O) : En → Rs O := fun e => (c e).bind fun k e1 => if k = true then a e1 else b e1
theorem he_if {c a b : Expr} {dc da db} (hc : HT X cl Wo c dc) (ha : HE X cl Wo a da) (hb : HE X cl Wo b db) : HE X cl Wo (.IfExp c a b pos) (dIf dc da db) :=
  PE.imp (pe_ifExp hc ha hb) fun σ H Q h => rdT_stepE h fun b H1 q => by
    cases b with
    | true => exact iteT q
    | false => exact iteF q
def O.isN : O → Bool
  | .d .non => true
  | _ => false
theorem See.isN {o : O} {v : V} (h : See W H Z o v) : decide (v = .non) = o.isN := by
  obtain ⟨f, h⟩ := h
  cases o with
  | d x =>
    obtain ⟨h, _⟩ := h
    cases x with
    | non => rw [show v = .non from h]; rfl
    | bl b => rw [show v = .bl b from h]; rfl
    | int i => rw [show v = .int i from h]; rfl
    | str i => rw [show v = .str i from h]; rfl
    | ty i => rw [show v = .ty i from h]; rfl
    | cls n => obtain ⟨a, _, rfl⟩ := h; rfl
    | adr a => rw [show v = .ref a from h]; rfl
    | tup xs => obtain ⟨a, vs, rfl, _⟩ := h; rfl
    | lst xs => obtain ⟨a, vs, rfl, _⟩ := h; rfl
    | dic ks xs => obtain ⟨a, vs, rfl, _⟩ := h; rfl
    | obj c ns xs => obtain ⟨a, C, dx, fs, rfl, _⟩ := h; rfl
  | lst xs => obtain ⟨a, vs, f', rfl, _⟩ := h; rfl
  | dic ks xs => obtain ⟨a, vs, f', rfl, _⟩ := h; rfl
  | obj c ns xs => obtain ⟨a, C, dx, fs, f', rfl, _⟩ := h; rfl
def fIsN : O → O → Option O
  | a, .d .non => some (.d (.bl a.isN))
  | _, _ => none
theorem bIsN : BinOk W fIsN (fun x y H Q => y = .non ∧ Q (.bl (decide (x = .non))) H) := by
  intro Z F P e T σ H a b z v u Q hf sa sb rs k
  unfold fIsN at hf
  split at hf
  · cases hf
    exact ⟨sb.d, by rw [sa.isN]; exact done_leaf (x := .bl a.isN) rs (fun _ _ => rfl) k⟩
  · cases hf
mutual
def D.py : D → Option PyData
  | .non => some .none
  | .bl b => some (.bool b)
  | .int i => some (.int i)
  | .str s => some (.str s)
  | .tup xs => (pys xs).map .tuple
  | .lst xs => (pys xs).map .list
  | _ => none
def pys : List D → Option (List PyData)
  | [] => some []
  | x :: xs => match x.py, pys xs with
    | some p, some ps => some (p :: ps)
    | _, _ => none
end
mutual
theorem RD.dp : ∀ (d : D) (v : V) (p : PyData), RD W H Z d v → d.py = some p → Dp W.K H v p
  | .non, v, p, h, e => by cases e; rw [show v = .non from h]; exact .non
  | .bl b, v, p, h, e => by cases e; rw [show v = .bl b from h]; exact .bl b
  | .int b, v, p, h, e => by cases e; rw [show v = .int b from h]; exact .int b
  | .str b, v, p, h, e => by cases e; rw [show v = .str b from h]; exact .str b
  | .tup xs, v, p, ⟨a, vs, ev, hh, r⟩, e => by
    cases q : pys xs with
    | none => simp [D.py, q] at e
    | some ps =>
      simp only [D.py, q, Option.map_some, Option.some.injEq] at e
      subst e ev
      exact .tup hh.sq (RDs.dp xs vs ps r q)
  | .lst xs, v, p, ⟨a, vs, ev, hh, r⟩, e => by
    cases q : pys xs with
    | none => simp [D.py, q] at e
    | some ps =>
      simp only [D.py, q, Option.map_some, Option.some.injEq] at e
      subst e ev
      exact .lst (.inl hh.2) (RDs.dp xs vs ps r q)
  | .ty _, _, _, _, e => by cases e
  | .cls _, _, _, _, e => by cases e
  | .adr _, _, _, _, e => by cases e
  | .dic _ _, _, _, _, e => by cases e
  | .obj _ _ _, _, _, _, e => by cases e
theorem RDs.dp : ∀ (ds : List D) (vs : List V) (ps : List PyData), RDs W H Z ds vs → pys ds = some ps → DpAll W.K H vs ps
  | [], vs, ps, h, e => by cases e; rw [show vs = [] from h]; exact .nil
  | d :: ds, vs, ps, ⟨v, r, ev, h1, h2⟩, e => by
    cases q1 : d.py with
    | none => simp [pys, q1] at e
    | some p =>
      cases q2 : pys ds with
      | none => simp [pys, q1, q2] at e
      | some qs =>
        simp only [pys, q1, q2, Option.some.injEq] at e
        subst e ev
        exact .cons (RD.dp d v p h1 q1) (RDs.dp ds r qs h2 q2)
end
def deqS (a b : O) : Option Bool := match a, b with
  | .d (.int i), .d (.int j) => some (decide (i = j))
  | .d (.str i), .d (.str j) => some (decide (i = j))
  | .d (.bl i), .d (.bl j) => some (decide (i = j))
  | _, _ => none
def deqD (a b : O) : Option Bool := match a.fz.py, b.fz.py with
  | some p, some q => if (SeqAt.shaped p && SeqAt.shaped q) = true then some (PyData.eqv p q) else none
  | _, _ => none
def deq (a b : O) : Option Bool := match deqS a b with
  | some c => some c
  | none => deqD a b
theorem deqS_ok {a b : O} {v u : V} {c : Bool} (h : deqS a b = some c) (sa : See W H Z a v) (sb : See W H Z b u) : scal v u = true ∧ decide (v = u) = c := by
  unfold deqS at h
  split at h
  · rename_i i j; cases h
    rw [sa.int, sb.int]
    exact ⟨rfl, by simp⟩
  · rename_i i j; cases h
    rw [sa.str, sb.str]
    exact ⟨rfl, by simp⟩
  · rename_i i j; cases h
    rw [sa.bl, sb.bl]
    exact ⟨rfl, by simp⟩
  · cases h
theorem deqD_ok {a b : O} {v u : V} {c : Bool} (h : deqD a b = some c) (sa : See W H Z a v) (sb : See W H Z b u) : ∃ p q, Dp W.K H v p ∧ Dp W.K H u q ∧ SeqAt.shaped p = true ∧ SeqAt.shaped q = true ∧ PyData.eqv p q = c := by
  unfold deqD at h
  split at h
  · rename_i p q hp hq
    split at h
    · rename_i hs; cases h
      rw [Bool.and_eq_true] at hs
      exact ⟨p, q, RD.dp _ _ _ sa.all hp, RD.dp _ _ _ sb.all hq, hs.1, hs.2, rfl⟩
    · cases h
  · cases h
def fEq : O → O → Option O := fun a b => (deq a b).map fun c => .d (.bl c)
def fNe : O → O → Option O := fun a b => (deq a b).map fun c => .d (.bl (!c))
theorem bEq : BinOk W fEq (fun x y H Q => rEq x y H Q ∨ rEqD W.K x y H Q) := by
  intro Z F P e T σ H a b z v u Q hf sa sb rs k
  unfold fEq deq at hf
  cases q1 : deqS a b with
  | some c =>
    rw [q1] at hf; cases hf
    obtain ⟨h1, h2⟩ := deqS_ok q1 sa sb
    exact .inl ⟨h1, by rw [h2]; exact done_leaf (x := .bl c) rs (fun _ _ => rfl) k⟩
  | none =>
    rw [q1] at hf
    cases q : deqD a b with
    | none => rw [q] at hf; cases hf
    | some c =>
      rw [q] at hf; cases hf
      obtain ⟨p, p', h1, h2, h3, h4, h5⟩ := deqD_ok q sa sb
      exact .inr ⟨p, p', h1, h2, h3, h4, by rw [h5]; exact done_leaf (x := .bl c) rs (fun _ _ => rfl) k⟩
theorem bNe : BinOk W fNe (fun x y H Q => rNe x y H Q ∨ rNeD W.K x y H Q) := by
  intro Z F P e T σ H a b z v u Q hf sa sb rs k
  unfold fNe deq at hf
  cases q1 : deqS a b with
  | some c =>
    rw [q1] at hf; cases hf
    obtain ⟨h1, h2⟩ := deqS_ok q1 sa sb
    exact .inl ⟨h1, by rw [h2]; exact done_leaf (x := .bl (!c)) rs (fun _ _ => rfl) k⟩
  | none =>
    rw [q1] at hf
    cases q : deqD a b with
    | none => rw [q] at hf; cases hf
    | some c =>
      rw [q] at hf; cases hf
      obtain ⟨p, p', h1, h2, h3, h4, h5⟩ := deqD_ok q sa sb
      exact .inr ⟨p, p', h1, h2, h3, h4, by rw [h5]; exact done_leaf (x := .bl (!c)) rs (fun _ _ => rfl) k⟩
def D.flat : D → Option V
  | .non => some .non
  | .bl b => some (.bl b)
  | .int i => some (.int i)
  | .str s => some (.str s)
  | _ => none
theorem RD.flat {d : D} {v w : V} (h : RD W H Z d v) (q : d.flat = some w) : v = w ∧ flatV v = true := by
  cases d <;> first
    | (cases q; exact ⟨h, by rw [show v = _ from h]; rfl⟩)
    | cases q
def flats : List D → Option (List V)
  | [] => some []
  | d :: ds => match d.flat, flats ds with
    | some v, some vs => some (v :: vs)
    | _, _ => none
theorem RDs.flats : ∀ {ds : List D} {vs ws : List V}, RDs W H Z ds vs → flats ds = some ws → vs = ws ∧ vs.all flatV = true
  | [], vs, ws, h, e => by cases e; rw [show vs = [] from h]; exact ⟨rfl, rfl⟩
  | d :: ds, vs, ws, ⟨v, r, ev, h1, h2⟩, e => by
    cases q1 : d.flat with
    | none => simp [MX.flats, q1] at e
    | some p =>
      cases q2 : MX.flats ds with
      | none => simp [MX.flats, q1, q2] at e
      | some qs =>
        simp only [MX.flats, q1, q2, Option.some.injEq] at e
        subst e ev
        obtain ⟨a1, a2⟩ := h1.flat q1
        obtain ⟨b1, b2⟩ := RDs.flats h2 q2
        exact ⟨by rw [a1, b1], by rw [List.all_cons, a2, b2]; rfl⟩
def O.items : O → Option (List D)
  | .lst os => leafs os
  | .d (.lst ds) => some ds
  | .d (.tup ds) => some ds
  | _ => none
theorem See.seq {o : O} {v : V} {ds : List D} (h : See W H Z o v) (q : o.items = some ds) : ∃ a vs, v = .ref a ∧ (SqL W.K H a vs ∨ SqT W.K H a vs) ∧ RDs W H Z ds vs := by
  cases o with
  | lst os =>
    obtain ⟨a, vs, e, h1, r⟩ := h.list (ds := ds) q
    exact ⟨a, vs, e, .inl h1, r⟩
  | d x =>
    cases x with
    | lst es =>
      obtain ⟨a, vs, e, h1, r⟩ := h.list (ds := ds) q
      exact ⟨a, vs, e, .inl h1, r⟩
    | tup es =>
      obtain ⟨a, vs, e, h1, r⟩ := h.tuple (ds := ds) q
      exact ⟨a, vs, e, .inr h1, r⟩
    | _ => cases q
  | _ => cases q
def din (a b : O) : Option Bool := match a, b.items with
  | .d x, some ds => match x.flat, flats ds with
    | some v, some vs => some (inV v vs)
    | _, _ => none
  | _, _ => none
theorem din_ok {a b : O} {v u : V} {c : Bool} (h : din a b = some c) (sa : See W H Z a v) (sb : See W H Z b u) : ∃ p xs, u = .ref p ∧ (SqL W.K H p xs ∨ SqT W.K H p xs) ∧ flatV v = true ∧ xs.all flatV = true ∧ inV v xs = c := by
  unfold din at h
  split at h
  · rename_i x ds hb
    split at h
    · rename_i w ws h1 h2; cases h
      obtain ⟨p, vs, e, hq, r⟩ := sb.seq hb
      obtain ⟨a1, a2⟩ := sa.d.flat h1
      obtain ⟨b1, b2⟩ := r.flats h2
      exact ⟨p, vs, e, hq, a2, b2, by rw [a1, b1]⟩
    · cases h
  · cases h
def fIn : O → O → Option O := fun a b => (din a b).map fun c => .d (.bl c)
def fNin : O → O → Option O := fun a b => (din a b).map fun c => .d (.bl (!c))
theorem bIn : BinOk W fIn (rIn W.K false) := by
  intro Z F P e T σ H a b z v u Q hf sa sb rs k
  unfold fIn at hf
  cases q : din a b with
  | none => rw [q] at hf; cases hf
  | some c =>
    rw [q] at hf; cases hf
    obtain ⟨p, xs, h1, h2, h3, h4, h5⟩ := din_ok q sa sb
    exact ⟨p, xs, h1, h2, h3, h4, by rw [h5]; exact done_leaf (x := .bl c) rs (fun _ _ => rfl) k⟩
theorem bNin : BinOk W fNin (rIn W.K true) := by
  intro Z F P e T σ H a b z v u Q hf sa sb rs k
  unfold fNin at hf
  cases q : din a b with
  | none => rw [q] at hf; cases hf
  | some c =>
    rw [q] at hf; cases hf
    obtain ⟨p, xs, h1, h2, h3, h4, h5⟩ := din_ok q sa sb
    exact ⟨p, xs, h1, h2, h3, h4, by rw [h5]; exact done_leaf (x := .bl (!c)) rs (fun _ _ => rfl) k⟩
end
end MX
namespace MX
open PySem L2
section
variable {X : Cx} {cl : Cl} {Wo : WX} {pos : Pos}
variable {W : Wd} {Z F Z' F' : Addr → Prop} {P : Nat → V} {e : En} {T : Ts} {σ : L2.St} {H H' : Hp} {Q : VK}
theorem Rs.bind_ok {α β : Type} {x : α} {f : α → En → Rs β} : (Rs.ok x e).bind f = f x e := rfl
def aNil : En → Rs (List O) := fun e => .ok [] e
def aCons (d : En → Rs O) (r : En → Rs (List O)) : En → Rs (List O) := fun e => (d e).bind fun o e1 => (r e1).bind fun os e2 => .ok (o :: os) e2
theorem ha_nil : HA X cl Wo [] aNil := PA.imp pa_nil fun σ H Q ⟨Z, F, P, e, T, r, k⟩ => k [] Z F H rfl .refl r
theorem rdA_cons {d : En → Rs O} {r : En → Rs (List O)} {g : O → List O → List O} {gv : V → List V → List V} {Q : List V → Hp → Prop} (hl : ∀ o os v vs, os.length = vs.length → (g o os).length = (gv v vs).length)
    (hp : ∀ o os v vs, os.length = vs.length → ((os.zip vs) ++ [(o, v)]).Perm ((g o os).zip (gv v vs)))
    (h : rdA W Wo (fun e => (d e).bind fun o e1 => (r e1).bind fun os e2 => .ok (g o os) e2) σ H Q) : rdE W Wo d σ H fun x H1 => rdA W Wo r σ H1 fun xs H2 => Q (gv x xs) H2 := by
  obtain ⟨Z, F, P, e, T, r0, k⟩ := h
  refine ⟨Z, F, P, e, T, r0, ?_⟩
  cases qa : d e with
  | bad => simp only [qa] at k; exact k
  | exc c ps e' => simp only [qa] at k; exact k
  | ok o e1 =>
    simp only [qa, Rs.bind_ok] at k
    intro v Z1 F1 H1 s1 r1
    refine ⟨Z1, F1, P, e1, (o, v) :: T, r1, ?_⟩
    cases qb : r e1 with
    | bad => simp only [qb] at k; exact k
    | exc c ps e' => simp only [qb] at k; exact XOk.popped (XOk.step s1 k)
    | ok os e2 =>
      simp only [qb] at k
      intro vs Z2 F2 H2 hlen s2 r2
      refine k (gv v vs) Z2 F2 H2 (hl o os v vs hlen) (s1.trans s2) (r2.perm ?_)
      have := (hp o os v vs hlen).append_right T
      rw [List.append_assoc] at this
      exact this
theorem ha_cons {a : Expr} {es : List Expr} {d r} (ha : HE X cl Wo a d) (hr : HA X cl Wo es r) (hs : starEach (a :: es) X.env = (false, eval a X.env) :: starEach es X.env := by rfl) : HA X cl Wo (a :: es) (aCons d r) :=
  PA.imp (pa_cons ha hr hs) fun σ H Q h => rdA_cons (g := fun o os => o :: os) (gv := fun v vs => v :: vs) (fun o os v vs h => by rw [List.length_cons, List.length_cons, h]) (fun o os v vs h => by
    rw [List.zip_cons_cons]
    exact List.perm_append_comm) h
theorem RS.freezeAll : ∀ {os : List O} {vs : List V} {Z F : Addr → Prop} {T : Ts}, os.length = vs.length → RS W Z F P e (os.zip vs ++ T) σ H → ∃ Z' F', Stp Z F H Z' F' H ∧ RS W Z' F' P e T σ H ∧ RDs W H Z' (fzs os) vs
  | [], vs, Z, F, T, hl, r => by
    have : vs = [] := List.length_eq_zero_iff.mp hl.symm
    subst this
    exact ⟨Z, F, .refl, r, rfl⟩
  | o :: os, [], _, _, _, hl, _ => by cases hl
  | o :: os, v :: vs, Z, F, T, hl, r => by
    have hl' : os.length = vs.length := Nat.succ.inj hl
    have r1 : RS W Z F P e ((o, v) :: (os.zip vs ++ T)) σ H := r
    obtain ⟨Z1, F1, s1, r2⟩ := r1.freeze
    have r3 : RS W Z1 F1 P e (os.zip vs ++ ((.d o.fz, v) :: T)) σ H := r2.perm List.perm_middle.symm
    obtain ⟨Z2, F2, s2, r4, rd⟩ := RS.freezeAll hl' r3
    exact ⟨Z2, F2, s1.trans s2, r4.pop, v, vs, rfl, r4.topD, rd⟩
def dTup (d : En → Rs (List O)) : En → Rs O := fun e => (d e).bind fun os e1 => if os.length ≤ sizeLine then .ok (.d (.tup (fzs os))) e1 else .bad
theorem rdA_step {d : En → Rs (List O)} {g : List O → En → Rs O} {K : List V → Hp → Prop} (h : rdE W Wo (fun e => (d e).bind g) σ H Q)
    (hk : ∀ Z F P e T H1 os vs, os.length = vs.length → RS W Z F P e (os.zip vs ++ T) σ H1 → PostE W Wo Z F P T σ H1 Q (g os e) → K vs H1) : rdA W Wo d σ H K := by
  obtain ⟨Z, F, P, e, T, r0, k⟩ := h
  refine ⟨Z, F, P, e, T, r0, ?_⟩
  cases qa : d e with
  | bad => simp only [qa] at k; exact k
  | exc c ps e' => simp only [qa] at k; exact k
  | ok os e1 =>
    simp only [qa, Rs.bind_ok] at k
    intro vs Z1 F1 H1 hl s1 r1
    refine hk Z1 F1 P e1 T H1 os vs hl r1 ?_
    cases qb : g os e1 with
    | bad => rw [qb] at k; exact k
    | exc c ps e' => rw [qb] at k; exact XOk.step s1 k
    | ok b' e2 => rw [qb] at k; exact fun v Z2 F2 H2 s2 r2 => k v Z2 F2 H2 (s1.trans s2) r2
theorem he_tup {es : List Expr} {x1} {d} (h : HA X cl Wo es d) : HE X cl Wo (.Tuple es x1 pos) (dTup d) :=
  PE.imp (pe_tupN h) fun σ H Q h => rdA_step h fun Z F P e T H1 os vs hl r k => by
    split at k
    · rename_i q
      refine ⟨by rw [← hl]; exact q, fun p o hp ho => ?_⟩
      obtain ⟨Z', F', s1, r1, rd⟩ := r.freezeAll hl
      exact k _ Z' F' _ (s1.trans (Stp.alloc hp)) (r1.newT rd hp ho)
    · exact k.elim
theorem RS.newO {os : List O} {vs : List V} {p : Addr} (r : RS W Z F P e (os.zip vs ++ T) σ H) (hl : os.length = vs.length) (hp : H p = none) : RS W Z (fun a => F a ∨ a = p) P e ((.lst os, .ref p) :: T) σ (upd H p (.lst vs)) := by
  obtain ⟨⟨fe, ft, h1, h2, nd, hF⟩, sep, zin, fin, pin, px⟩ := r
  have k := same_upd (o := .lst vs) hp
  have kp : Kp H Z (upd H p (.lst vs)) Z := ⟨fun _ h => h, fun a o _ h => k a o h, fun a _ h => k a _ h, fun a _ _ h => k a _ h⟩
  have pF : ∀ a, F a → a ≠ p := fun a fa z => by subst z; exact notMut_none hp (fin a fa)
  rw [List.map_append, List.map_append, List.map_fst_zip (Nat.le_of_eq hl), List.map_snd_zip (Nat.le_of_eq hl.symm)] at h2
  obtain ⟨vs', us, f1, f2, ew, ef, a1, a2⟩ := h2.split
  have hvs : vs' = vs ∧ us = T.map (·.2) := by
    have hl2 : vs'.length = vs.length := by rw [← a1.len, hl]
    have := List.append_inj ew hl2.symm
    exact ⟨this.1.symm, this.2.symm⟩
  obtain ⟨rfl, rfl⟩ := hvs
  subst ef
  refine ⟨⟨fe, p :: (f1 ++ f2), h1.keep kp _ _ _ fun a _ u q => k a u q, ⟨.ref p, _, p :: f1, f2, rfl, rfl, ⟨p, vs', f1, rfl, upd_same, rfl, a1.keep kp _ _ _ fun a _ u q => k a u q⟩, a2.keep kp _ _ _ fun a _ u q => k a u q⟩, ?_, fun a ha => ?_⟩, fun a ha z => ?_, fun a z q => ?_, fun a ha => ?_, pin, px⟩
  · rw [List.perm_middle.nodup_iff, List.nodup_cons]
    exact ⟨fun z => pF p (hF p z) rfl, nd⟩
  · rcases List.mem_append.mp ha with q | q
    · exact .inl (hF a (List.mem_append_left _ q))
    · rcases List.mem_cons.mp q with q | q
      · exact .inr q
      · exact .inl (hF a (List.mem_append_right _ q))
  · rcases ha with ha | ha
    · exact sep a ha z
    · subst ha; exact zin a z hp
  · exact dom_upd a (zin a z) q
  · rcases ha with ha | ha
    · rw [upd_ne (pF a ha)]; exact fin a ha
    · rw [ha, upd_same]; trivial
def dLst (d : En → Rs (List O)) : En → Rs O := fun e => (d e).bind fun os e1 => if os.length ≤ sizeLine then .ok (.lst os) e1 else .bad
theorem he_lst {es : List Expr} {d} (h : HA X cl Wo es d) : HE X cl Wo (.List es pos) (dLst d) :=
  PE.imp (pe_lst h) fun σ H Q h => rdA_step h fun Z F P e T H1 os vs hl r k => by
    split at k
    · rename_i q
      exact ⟨by rw [← hl]; exact q, fun p hp => k _ Z _ _ (Stp.allocF hp) (r.newO hl hp)⟩
    · exact k.elim
theorem ros_leaf : ∀ {ds : List D} {vs : List V}, RDs W H Z ds vs → ∀ {T : Ts}, RS W Z F P e T σ H → RS W Z F P e ((ds.map O.d).zip vs ++ T) σ H
  | [], vs, h, T, r => by
    have : vs = [] := h
    subst this; exact r
  | d :: ds, vs, ⟨v, rr, ev, h1, h2⟩, T, r => by
    subst ev
    exact (ros_leaf h2 r).push h1
def tmps : List Ar → List V → Ts
  | x :: xs, v :: vs => tmps xs vs ++ x.tmp v
  | _, _ => []
def ats (σ : L2.St) : List Ar → List V → Prop
  | x :: xs, v :: vs => x.at σ v ∧ ats σ xs vs
  | _, _ => True
def gets (e : En) : List Ar → Option (List O)
  | [] => some []
  | x :: xs => match x.get e, gets e xs with
    | some o, some os => some (o :: os)
    | _, _ => none
def PostVs (W : Wd) (Wo : WX) (Z F : Addr → Prop) (P : Nat → V) (T : Ts) (σ : L2.St) (H : Hp) (Q : List V → Hp → Prop) : Rs (List Ar) → Prop
  | .ok xs e => ∀ vs Z' F' H', xs.length = vs.length → Stp Z F H Z' F' H' → RS W Z' F' P e (tmps xs vs ++ T) σ H' → ats σ xs vs → Q vs H'
  | .exc c ps e => XOk W Wo Z F P T σ H c ps e
  | .bad => False
def rdVs (W : Wd) (Wo : WX) (d : En → Rs (List Ar)) : TA := fun σ H Q => ∃ Z F P e T, RS W Z F P e T σ H ∧ PostVs W Wo Z F P T σ H Q (d e)
def HVs (X : Cx) (cl : Cl) (Wo : WX) (es : List Expr) (d : En → Rs (List Ar)) : Prop := PA X es (rdVs (Cx.wd X cl) Wo d)
def vNil : En → Rs (List Ar) := fun e => .ok [] e
def vCons (d : En → Rs Ar) (r : En → Rs (List Ar)) : En → Rs (List Ar) := fun e => (d e).bind fun x e1 => (r e1).bind fun xs e2 => .ok (x :: xs) e2
theorem hvs_nil : HVs X cl Wo [] vNil := PA.imp pa_nil fun σ H Q ⟨Z, F, P, e, T, r, k⟩ => k [] Z F H rfl .refl r trivial
theorem hvs_cons {a : Expr} {es : List Expr} {d r} (ha : HV X cl Wo a d) (hr : HVs X cl Wo es r) (hs : starEach (a :: es) X.env = (false, eval a X.env) :: starEach es X.env := by rfl) : HVs X cl Wo (a :: es) (vCons d r) :=
  PA.imp (pa_cons ha hr hs) fun σ H Q ⟨Z, F, P, e, T, r0, k⟩ => by
    refine ⟨Z, F, P, e, T, r0, ?_⟩
    unfold vCons at k
    cases qa : d e with
    | bad => simp only [qa] at k; exact k
    | exc c ps e' => simp only [qa] at k; exact k
    | ok x e1 =>
      simp only [qa, Rs.bind_ok] at k
      intro v Z1 F1 H1 s1 r1 a1
      refine ⟨Z1, F1, P, e1, x.tmp v ++ T, r1, ?_⟩
      cases qb : r e1 with
      | bad => simp only [qb] at k; exact k
      | exc c ps e' => simp only [qb] at k; exact XOk.pops (XOk.step s1 k)
      | ok xs e2 =>
        simp only [qb] at k
        intro vs Z2 F2 H2 hl s2 r2 a2
        exact k (v :: vs) Z2 F2 H2 (by rw [List.length_cons, List.length_cons, hl]) (s1.trans s2) (by rw [show tmps (x :: xs) (v :: vs) = tmps xs vs ++ x.tmp v from rfl, List.append_assoc]; exact r2) ⟨a1, a2⟩
def Sees (W : Wd) (H : Hp) (Z : Addr → Prop) : List O → List V → Prop
  | [], [] => True
  | o :: os, v :: vs => See W H Z o v ∧ Sees W H Z os vs
  | _, _ => False
theorem sees_tmps : ∀ {xs : List Ar} {vs : List V} {os : List O} {T : Ts}, xs.length = vs.length → RS W Z F P e (tmps xs vs ++ T) σ H → ats σ xs vs → gets e xs = some os → Sees W H Z os vs ∧ RS W Z F P e T σ H
  | [], [], os, T, _, r, _, g => by cases g; exact ⟨trivial, r⟩
  | [], _ :: _, _, _, hl, _, _, _ => by cases hl
  | _ :: _, [], _, _, hl, _, _, _ => by cases hl
  | x :: xs, v :: vs, os, T, hl, r, a, g => by
    unfold gets at g
    cases g1 : x.get e with
    | none => rw [g1] at g; cases g
    | some o =>
      cases g2 : gets e xs with
      | none => rw [g1, g2] at g; cases g
      | some ps =>
        rw [g1, g2] at g
        cases g
        rw [show tmps (x :: xs) (v :: vs) = tmps xs vs ++ x.tmp v from rfl, List.append_assoc] at r
        obtain ⟨h1, h2⟩ := sees_tmps (Nat.succ.inj hl) r a.2 g2
        obtain ⟨h3, h4⟩ := see_tmp h2 a.1 g1
        exact ⟨⟨h3, h1⟩, h4⟩
def dCall (f : List O → Option O) (d : En → Rs (List Ar)) : En → Rs O := fun e => (d e).bind fun xs e1 => match gets e1 xs with
  | some os => fin (f os) e1
  | none => .bad
def CallOk (W : Wd) (f : List O → Option O) (r : List V → Hp → VK → Prop) : Prop :=
  ∀ Z F P e T σ H os z vs Q, f os = some z → Sees W H Z os vs → RS W Z F P e T σ H → (∀ w Z' F' H', Stp Z F H Z' F' H' → RS W Z' F' P e ((z, w) :: T) σ H' → Q w H') → r vs H Q
theorem rdCall {f : List O → Option O} {r : List V → Hp → VK → Prop} {d : En → Rs (List Ar)} (hf : CallOk W f r) (h : rdE W Wo (dCall f d) σ H Q) : rdVs W Wo d σ H fun vs H1 => r vs H1 Q := by
  obtain ⟨Z, F, P, e, T, r0, k⟩ := h
  refine ⟨Z, F, P, e, T, r0, ?_⟩
  unfold dCall at k
  cases qa : d e with
  | bad => rw [qa] at k; exact k
  | exc c ps e' => rw [qa] at k; exact k
  | ok xs e1 =>
    intro vs Z1 F1 H1 hl s1 r1 a1
    rw [qa] at k
    simp only [Rs.bind_ok] at k
    cases g : gets e1 xs with
    | none => rw [g] at k; exact k.elim
    | some os =>
      rw [g] at k
      obtain ⟨ss, r2⟩ := sees_tmps hl r1 a1 g
      cases qz : f os with
      | none => simp only [fin, qz] at k; exact k.elim
      | some z =>
        simp only [fin, qz] at k
        exact hf Z1 F1 P e1 T σ H1 os z vs Q qz ss r2 fun w Z' F' H' s3 r5 => k w Z' F' H' (s1.trans s3) r5
theorem he_callB {x : Str} {p : Pos} {a : Expr} {es : List Expr} {id : String} {r} {f} {d} (hc : CallR X (.builtin id) r) (hf : CallOk (Cx.wd X cl) f r) (hg : Gl X x) (hm : X.mg x = none) (hv : bootBuiltins x = some (.builtin id)) (ha : HVs X cl Wo (a :: es) d) (hn : x ≠ "__name__" := by decide) (hdb : (x == ("__debug__" : Str)) = false := by decide)
    (he : starEach (a :: es) X.env = (false, eval a X.env) :: starEach es X.env := by rfl) (hpl : (backTo pos (starEach es X.env)).any (·.1) = false := by rfl) : HE X cl Wo (.Call (.Name x p) (a :: es) [] pos) (dCall f d) :=
  PE.imp (pe_callB hc hg hm hv ha hn hdb he hpl) fun σ H Q h => rdCall hf h
theorem he_callTy {x : Str} {p : Pos} {a : Expr} {es : List Expr} {id : String} {r} {f} {d} (hc : CallR X (.type id) r) (hf : CallOk (Cx.wd X cl) f r) (hg : Gl X x) (hm : X.mg x = none) (hv : bootBuiltins x = some (.type id)) (ha : HVs X cl Wo (a :: es) d) (hn : x ≠ "__name__" := by decide) (hdb : (x == ("__debug__" : Str)) = false := by decide)
    (he : starEach (a :: es) X.env = (false, eval a X.env) :: starEach es X.env := by rfl) (hpl : (backTo pos (starEach es X.env)).any (·.1) = false := by rfl) : HE X cl Wo (.Call (.Name x p) (a :: es) [] pos) (dCall f d) :=
  PE.imp (pe_callTy hc hg hm hv ha hn hdb he hpl) fun σ H Q h => rdCall hf h
theorem Sees.one {o : O} {vs : List V} (h : Sees W H Z [o] vs) : ∃ v, vs = [v] ∧ See W H Z o v := by
  match vs, h with
  | [v], ⟨h, _⟩ => exact ⟨v, rfl, h⟩
theorem Sees.two {o p : O} {vs : List V} (h : Sees W H Z [o, p] vs) : ∃ v u, vs = [v, u] ∧ See W H Z o v ∧ See W H Z p u := by
  match vs, h with
  | [v, u], ⟨h, h', _⟩ => exact ⟨v, u, rfl, h, h'⟩
def on1 (f : O → Option O) : List O → Option O
  | [o] => f o
  | _ => none
theorem on1_some {f : O → Option O} {os : List O} {z : O} (h : on1 f os = some z) : ∃ o, os = [o] ∧ f o = some z := by
  unfold on1 at h
  split at h
  · exact ⟨_, rfl, h⟩
  · cases h
def fLen : O → Option O
  | .lst os => some (.d (.int os.length))
  | .d (.lst ds) => some (.d (.int ds.length))
  | .d (.tup ds) => some (.d (.int ds.length))
  | _ => none
theorem cLen : CallOk W (on1 fLen) (fun xs H Q => ∃ p ys, xs = [.ref p] ∧ (SqL W.K H p ys ∨ SqT W.K H p ys) ∧ Q (.int ys.length) H) := by
  intro Z F P e T σ H os z vs Q hf ss rs k
  obtain ⟨o, rfl, hg⟩ := on1_some hf
  clear hf
  obtain ⟨v, rfl, s⟩ := ss.one
  unfold fLen at hg
  split at hg
  · rename_i os
    cases hg
    obtain ⟨f, a, us, f', e, hh, ef, r⟩ := s
    exact ⟨a, us, by rw [e], .inl (.inl (.inl hh)), by rw [← r.len]; exact done_leaf (x := .int os.length) rs (fun _ _ => rfl) k⟩
  · rename_i ds
    cases hg
    obtain ⟨a, us, e, h1, r⟩ := s.list (ds := ds) rfl
    exact ⟨a, us, by rw [e], .inl h1, by rw [← r.len]; exact done_leaf (x := .int ds.length) rs (fun _ _ => rfl) k⟩
  · rename_i ds
    cases hg
    obtain ⟨a, us, e, h1, r⟩ := s.tuple (ds := ds) rfl
    exact ⟨a, us, by rw [e], .inr h1, by rw [← r.len]; exact done_leaf (x := .int ds.length) rs (fun _ _ => rfl) k⟩
  · cases hg
def fLenS : O → Option O
  | .d (.str s) => if s.length ≤ sizeLine then some (.d (.int s.length)) else none
  | _ => none
theorem cLenS : CallOk W (on1 fLenS) (fun xs H Q => ∃ z, xs = [.str z] ∧ z.length ≤ sizeLine ∧ Q (.int z.length) H) := by
  intro Z F P e T σ H os z vs Q hf ss rs k
  obtain ⟨o, rfl, hg⟩ := on1_some hf
  clear hf
  obtain ⟨v, rfl, s⟩ := ss.one
  unfold fLenS at hg
  split at hg
  · rename_i x
    split at hg
    · rename_i q; cases hg
      exact ⟨x, by rw [s.str], q, done_leaf (x := .int x.length) rs (fun _ _ => rfl) k⟩
    · cases hg
  · cases hg
def fInt : O → Option O
  | .d (.int i) => some (.d (.int i))
  | .d (.bl b) => some (.d (.int (if b = true then 1 else 0)))
  | _ => none
theorem cInt : CallOk W (on1 fInt) (fun xs H Q => (∃ i, xs = [.int i] ∧ Q (.int i) H) ∨ ∃ k, xs = [.bl k] ∧ Q (.int (if k then 1 else 0)) H) := by
  intro Z F P e T σ H os z vs Q hf ss rs k
  obtain ⟨o, rfl, hg⟩ := on1_some hf
  clear hf
  obtain ⟨v, rfl, s⟩ := ss.one
  unfold fInt at hg
  split at hg
  · rename_i i; cases hg
    exact .inl ⟨i, by rw [s.int], done_leaf (x := .int i) rs (fun _ _ => rfl) k⟩
  · rename_i b; cases hg
    exact .inr ⟨b, by rw [s.bl], done_leaf (x := .int (if b = true then 1 else 0)) rs (fun _ _ => rfl) k⟩
  · cases hg
def fAbs : O → Option O
  | .d (.int i) => some (.d (.int (if i < 0 then -i else i)))
  | _ => none
theorem cAbs : CallOk W (on1 fAbs) (fun xs H Q => ∃ i, xs = [.int i] ∧ Q (.int (if i < 0 then -i else i)) H) := by
  intro Z F P e T σ H os z vs Q hf ss rs k
  obtain ⟨o, rfl, hg⟩ := on1_some hf
  clear hf
  obtain ⟨v, rfl, s⟩ := ss.one
  unfold fAbs at hg
  split at hg
  · rename_i i; cases hg
    exact ⟨i, by rw [s.int], done_leaf (x := .int (if i < 0 then -i else i)) rs (fun _ _ => rfl) k⟩
  · cases hg
def on2 (f : O → O → Option O) : List O → Option O
  | [a, b] => f a b
  | _ => none
theorem on2_some {f : O → O → Option O} {os : List O} {z : O} (h : on2 f os = some z) : ∃ o p, os = [o, p] ∧ f o p = some z := by
  unfold on2 at h
  split at h
  · exact ⟨_, _, rfl, h⟩
  · cases h
def fList (o : O) : Option O := o.items.map fun ds => .lst (ds.map .d)
theorem cList : CallOk W (on1 fList) (fun xs H Q => ∃ p ys, xs = [.ref p] ∧ (SqL W.K H p ys ∨ SqT W.K H p ys) ∧ ∀ l, H l = none → Q (.ref l) (upd H l (.lst ys))) := by
  intro Z F P e T σ H os z vs Q hf ss rs k
  obtain ⟨o, rfl, hg⟩ := on1_some hf
  clear hf
  obtain ⟨v, rfl, s⟩ := ss.one
  unfold fList at hg
  cases q : o.items with
  | none => rw [q] at hg; cases hg
  | some ds =>
    rw [q] at hg; cases hg
    obtain ⟨a, us, e, h1, r⟩ := s.seq q
    exact ⟨a, us, by rw [e], h1, fun l hl => k _ _ _ _ (Stp.allocF hl) (rs.newL r hl)⟩
def fTuple (o : O) : Option O := match o with
  | .d (.tup ds) => some (.d (.tup ds))
  | o => o.ls.map fun ds => .d (.tup ds)
theorem cTuple : CallOk W (on1 fTuple) (rTupOf W.K) := by
  intro Z F P e T σ H os z vs Q hf ss rs k
  obtain ⟨o, rfl, hg⟩ := on1_some hf
  clear hf
  obtain ⟨v, rfl, s⟩ := ss.one
  unfold fTuple at hg
  split at hg
  · rename_i ds; cases hg
    obtain ⟨a, us, e, h1, r⟩ := s.tuple (ds := ds) rfl
    exact ⟨a, us, by rw [e], .inr ⟨h1, k _ _ _ _ .refl (rs.push (by rw [← e]; exact s.d))⟩⟩
  · cases q : o.ls with
    | none => rw [q] at hg; cases hg
    | some ds =>
      rw [q] at hg; cases hg
      obtain ⟨a, us, e, h1, r⟩ := s.list q
      exact ⟨a, us, by rw [e], .inl ⟨h1, fun l o hl ho => k _ _ _ _ (Stp.alloc hl) (rs.newT r hl ho)⟩⟩
def intsD : List D → Option (List Int)
  | [] => some []
  | .int i :: r => (intsD r).map (i :: ·)
  | _ :: _ => none
theorem intsD_map : ∀ xs : List Int, intsD (xs.map D.int) = some xs
  | [] => rfl
  | x :: xs => by show (intsD (xs.map D.int)).map (x :: ·) = some (x :: xs); rw [intsD_map xs]; rfl
theorem intsD_rds : ∀ {ds : List D} {ns : List Int} {vs : List V}, intsD ds = some ns → RDs W H Z ds vs → vs = ns.map V.int
  | [], ns, vs, h, r => by
    cases h
    exact r
  | .int i :: ds, ns, vs, h, ⟨v, r, ev, h1, h2⟩ => by
    cases q : intsD ds with
    | none => simp [intsD, q] at h
    | some ms =>
      simp only [intsD, q, Option.map_some, Option.some.injEq] at h
      subst h ev
      rw [show v = .int i from h1, intsD_rds q h2]; rfl
  | .non :: _, _, _, h, _ => by cases h
  | .bl _ :: _, _, _, h, _ => by cases h
  | .str _ :: _, _, _, h, _ => by cases h
  | .ty _ :: _, _, _, h, _ => by cases h
  | .cls _ :: _, _, _, h, _ => by cases h
  | .adr _ :: _, _, _, h, _ => by cases h
  | .tup _ :: _, _, _, h, _ => by cases h
  | .lst _ :: _, _, _, h, _ => by cases h
  | .dic _ _ :: _, _, _, h, _ => by cases h
  | .obj _ _ _ :: _, _, _, h, _ => by cases h
def fSum (o : O) : Option O := (o.ls.bind intsD).map fun ns => .d (.int ns.sum)
theorem cSum : CallOk W (on1 fSum) (rSum W.K) := by
  intro Z F P e T σ H os z vs Q hf ss rs k
  obtain ⟨o, rfl, hg⟩ := on1_some hf
  clear hf
  obtain ⟨v, rfl, s⟩ := ss.one
  unfold fSum at hg
  cases q : o.ls with
  | none => rw [q] at hg; cases hg
  | some ds =>
    rw [q] at hg
    simp only [Option.bind_some] at hg
    cases q2 : intsD ds with
    | none => rw [q2] at hg; cases hg
    | some ns =>
      rw [q2] at hg; cases hg
      obtain ⟨a, us, e, h1, r⟩ := s.list q
      rw [intsD_rds q2 r] at h1
      exact ⟨a, ns, by rw [e], h1, done_leaf (x := .int ns.sum) rs (fun _ _ => rfl) k⟩
end
end MX
namespace MX
open PySem L2
def PostS (W : Wd) (Wo : WX) (Z F : Addr → Prop) (P : Nat → V) (T : Ts) (H : Hp) (D : Ends) : Out → Prop
  | .nx e => ∀ σ' Z' F' H', Stp Z F H Z' F' H' → RS W Z' F' P e T σ' H' → D.nx σ' H'
  | .rt o e => ∀ v σ' Z' F' H', Stp Z F H Z' F' H' → RS W Z' F' P e ((o, v) :: T) σ' H' → D.rt v H'
  | .bk e => ∀ σ' Z' F' H', Stp Z F H Z' F' H' → RS W Z' F' P e T σ' H' → D.bk σ' H'
  | .ct e => ∀ σ' Z' F' H', Stp Z F H Z' F' H' → RS W Z' F' P e T σ' H' → D.ct σ' H'
  | .exc c ps e => ∀ σ', XOk W Wo Z F P T σ' H c ps e
  | .bad => False
def rdS (W : Wd) (Wo : WX) (d : En → Out) : TS := fun D σ H => ∃ Z F P e T, RS W Z F P e T σ H ∧ PostS W Wo Z F P T H D (d e)
def HS (X : Cx) (cl : Cl) (Wo : WX) (st : Stmt) (d : En → Out) : Prop := PS X st (rdS (Cx.wd X cl) Wo d)
def HSs (X : Cx) (cl : Cl) (Wo : WX) (st : List Stmt) (d : En → Out) : Prop := PSs X st (rdS (Cx.wd X cl) Wo d)
theorem PS.imp {X : Cx} {st : Stmt} {t t' : TS} (h : PS X st t) (k : ∀ D σ H, t' D σ H → t D σ H) : PS X st t' := ⟨fun pins s σ H D I q => h.run pins s σ H D I (k D σ H q)⟩
theorem PSs.imp {X : Cx} {st : List Stmt} {t t' : TS} (h : PSs X st t) (k : ∀ D σ H, t' D σ H → t D σ H) : PSs X st t' := ⟨fun pins s σ H D I q => h.run pins s σ H D I (k D σ H q)⟩
theorem PG.imp {X : Cx} {tg : Expr} {t t' : TG} (h : PG X tg t) (k : ∀ v σ H Q, t' v σ H Q → t v σ H Q) : PG X tg t' := ⟨fun pins s σ H v u Q I r q => h.run pins s σ H v u Q I r (k v σ H Q q)⟩
section
variable {X : Cx} {cl : Cl} {Wo : WX} {pos : Pos}
variable {W : Wd} {Z F Z' F' : Addr → Prop} {P : Nat → V} {e : En} {T : Ts} {σ : L2.St} {H H' : Hp} {Q : VK} {DD : Ends}
theorem PostS.step (s : Stp Z F H Z' F' H') {r : Out} (h : PostS W Wo Z F P T H DD r) : PostS W Wo Z' F' P T H' DD r := by
  cases r with
  | nx e => exact fun σ2 Z2 F2 H2 s2 r2 => h σ2 Z2 F2 H2 (s.trans s2) r2
  | rt o e => exact fun v σ2 Z2 F2 H2 s2 r2 => h v σ2 Z2 F2 H2 (s.trans s2) r2
  | bk e => exact fun σ2 Z2 F2 H2 s2 r2 => h σ2 Z2 F2 H2 (s.trans s2) r2
  | ct e => exact fun σ2 Z2 F2 H2 s2 r2 => h σ2 Z2 F2 H2 (s.trans s2) r2
  | exc c ps e => exact fun σ2 => XOk.step s (h σ2)
  | bad => exact h
theorem PostS.imp {D' : Ends} {T' : Ts} {r : Out} (h : PostS W Wo Z F P T H DD r) (hT : ∀ Z F e σ H, RS W Z F P e T' σ H → RS W Z F P e T σ H) (hR : ∀ o v Z F e σ H, RS W Z F P e ((o, v) :: T') σ H → RS W Z F P e ((o, v) :: T) σ H)
    (h1 : ∀ σ H, DD.nx σ H → D'.nx σ H) (h2 : ∀ v H, DD.rt v H → D'.rt v H) (h3 : ∀ σ H, DD.bk σ H → D'.bk σ H) (h4 : ∀ σ H, DD.ct σ H → D'.ct σ H) : PostS W Wo Z F P T' H D' r := by
  cases r with
  | nx e => exact fun σ2 Z2 F2 H2 s2 r2 => h1 _ _ (h σ2 Z2 F2 H2 s2 (hT _ _ _ _ _ r2))
  | rt o e => exact fun v σ2 Z2 F2 H2 s2 r2 => h2 _ _ (h v σ2 Z2 F2 H2 s2 (hR _ _ _ _ _ _ _ r2))
  | bk e => exact fun σ2 Z2 F2 H2 s2 r2 => h3 _ _ (h σ2 Z2 F2 H2 s2 (hT _ _ _ _ _ r2))
  | ct e => exact fun σ2 Z2 F2 H2 s2 r2 => h4 _ _ (h σ2 Z2 F2 H2 s2 (hT _ _ _ _ _ r2))
  | exc c ps e => exact fun σ2 Z2 F2 H2 C dd hc py s2 r2 => h σ2 Z2 F2 H2 C dd hc py s2 (hT _ _ _ _ _ r2)
  | bad => exact h
def sNext : En → Out := fun e => .nx e
def Out.andThen (r : Out) (b : En → Out) : Out := match r with
  | .nx e => b e
  | r => r
def sSeq (a b : En → Out) : En → Out := fun e => (a e).andThen b
theorem hss_nil : HSs X cl Wo [] sNext := PSs.imp pss_nil fun D σ H ⟨Z, F, P, e, T, r, k⟩ => k σ Z F H .refl r
theorem hss_one {st : Stmt} {d} (h : HS X cl Wo st d) : HSs X cl Wo [st] d := pss_one h
theorem hss_cons {st : Stmt} {rest : List Stmt} {d d'} (h : HS X cl Wo st d) (h' : HSs X cl Wo rest d') : HSs X cl Wo (st :: rest) (sSeq d d') :=
  PSs.imp (pss_cons h h') fun D σ H ⟨Z, F, P, e, T, r, k⟩ => by
    refine ⟨Z, F, P, e, T, r, ?_⟩
    unfold sSeq at k
    cases q : d e with
    | nx e1 => rw [q] at k; exact fun σ2 Z2 F2 H2 s2 r2 => ⟨Z2, F2, P, e1, T, r2, PostS.step s2 k⟩
    | rt o e1 => rw [q] at k; exact k
    | bk e1 => rw [q] at k; exact k
    | ct e1 => rw [q] at k; exact k
    | exc c ps e1 => rw [q] at k; exact k
    | bad => rw [q] at k; exact k
def Rs.out {α : Type} (r : Rs α) (g : α → En → Out) : Out := match r with
  | .ok x e => g x e
  | .exc c ps e => .exc c ps e
  | .bad => .bad
theorem rdE_out {d : En → Rs O} {g : O → En → Out} {K : VK} (h : rdS W Wo (fun e => (d e).out g) DD σ H)
    (hk : ∀ Z F P e T o v H1, RS W Z F P e ((o, v) :: T) σ H1 → PostS W Wo Z F P T H1 DD (g o e) → K v H1) : rdE W Wo d σ H K := by
  obtain ⟨Z, F, P, e, T, r, k⟩ := h
  refine ⟨Z, F, P, e, T, r, ?_⟩
  cases q : d e with
  | ok o e1 => simp only [q, Rs.out] at k; exact fun v Z1 F1 H1 s1 r1 => hk Z1 F1 P e1 T o v H1 r1 (PostS.step s1 k)
  | exc c ps e1 => simp only [q, Rs.out] at k; exact k σ
  | bad => simp only [q, Rs.out] at k; exact k
theorem rdT_out {d : En → Rs Bool} {g : Bool → En → Out} {K : Bool → Hp → Prop} (h : rdS W Wo (fun e => (d e).out g) DD σ H)
    (hk : ∀ Z F P e T b H1, RS W Z F P e T σ H1 → PostS W Wo Z F P T H1 DD (g b e) → K b H1) : rdT W Wo d σ H K := by
  obtain ⟨Z, F, P, e, T, r, k⟩ := h
  refine ⟨Z, F, P, e, T, r, ?_⟩
  cases q : d e with
  | ok o e1 => simp only [q, Rs.out] at k; exact fun Z1 F1 H1 s1 r1 => hk Z1 F1 P e1 T o H1 r1 (PostS.step s1 k)
  | exc c ps e1 => simp only [q, Rs.out] at k; exact k σ
  | bad => simp only [q, Rs.out] at k; exact k
def sExpr (d : En → Rs O) : En → Out := fun e => (d e).out fun _ e1 => .nx e1
theorem hs_expr {ex : Expr} {d} (h : HE X cl Wo ex d) (hs : swapsWith ex none pos.line X.env = pure false := by rfl) : HS X cl Wo (.Expr ex pos) (sExpr d) :=
  PS.imp (ps_expr h hs) fun D σ H h => rdE_out h fun Z F P e T o v H1 r k => k σ Z F H1 .refl r.pop
def sRet (d : En → Rs O) : En → Out := fun e => (d e).out fun o e1 => .rt o e1
theorem hs_ret {ex : Expr} {d} (h : HE X cl Wo ex d) : HS X cl Wo (.Return (some ex) pos) (sRet d) :=
  PS.imp (ps_ret h) fun D σ H h => rdE_out h fun Z F P e T o v H1 r k => k v σ Z F H1 .refl r
def sIf (c : En → Rs Bool) (a b : En → Out) : En → Out := fun e => (c e).out fun k e1 => if k = true then a e1 else b e1
theorem hs_if {c : Expr} {a b : List Stmt} {dc da db} (hc : HT X cl Wo c dc) (ha : HSs X cl Wo a da) (hb : HSs X cl Wo b db) : HS X cl Wo (.If c a b pos) (sIf dc da db) :=
  PS.imp (ps_if hc ha hb) fun D σ H h => rdT_out h fun Z F P e T k H1 r q => by
    cases k with
    | true => exact iteT ⟨Z, F, P, e, T, r, q⟩
    | false => exact iteF ⟨Z, F, P, e, T, r, q⟩
abbrev Tg := O → En → Option En
def Kps (vs : List Nat) (σ σ' : L2.St) : Prop := σ'.length = σ.length ∧ ∀ j, j ∉ vs → σ'[j]? = σ[j]?
theorem Kps.refl {vs : List Nat} : Kps vs σ σ := ⟨rfl, fun _ _ => rfl⟩
theorem Kps.trans {vs : List Nat} {σ1 σ2 σ3 : L2.St} (a : Kps vs σ1 σ2) (b : Kps vs σ2 σ3) : Kps vs σ1 σ3 := ⟨b.1.trans a.1, fun j h => (b.2 j h).trans (a.2 j h)⟩
theorem Kps.set {vs : List Nat} {i : Nat} {x : Option V} (h : i ∈ vs) : Kps vs σ (σ.set i x) := ⟨List.length_set, fun j hj => List.getElem?_set_ne fun e => hj (by rw [← e]; exact h)⟩
def rdG (W : Wd) (ss : List Nat) (t : Tg) : TG := fun v σ H Q => ∃ Z F P e T o, RS W Z F P e ((o, v) :: T) σ H ∧ match t o e with
  | some e' => ∀ σ' Z' F' H', Kps ss σ σ' → Stp Z F H Z' F' H' → RS W Z' F' P e' T σ' H' → Q σ' H'
  | none => False
def HG (X : Cx) (cl : Cl) (tg : Expr) (ss : List Nat) (t : Tg) : Prop := PG X tg (rdG (Cx.wd X cl) ss t)
def setS (e : En) (i : Nat) (o : O) : Option En := match e[i]? with
  | some s => if s.pinned = true then none else some (e.set i (.v o))
  | none => none
theorem RS.store {o : O} {v : V} {i : Nat} {e' : En} (r : RS W Z F P e ((o, v) :: T) σ H) (h : setS e i o = some e') : RS W Z F P e' T (σ.set i (some v)) H := by
  unfold setS at h
  cases q : e[i]? with
  | none => rw [q] at h; cases h
  | some s =>
    rw [q] at h
    simp only at h
    split at h
    · cases h
    · rename_i np
      cases h
      obtain ⟨⟨fe, ft, h1, ⟨v', rr, f1, f2, ev, ef, h2, h3⟩, nd, hF⟩, sep, zin, fin, pin, px⟩ := r
      have e0 : v = v' := (List.cons.inj ev).1
      have e2 : T.map (·.2) = rr := (List.cons.inj ev).2
      subst e0 e2
      have hi : i < (e.map Sl.cont).length := by rw [List.length_map]; exact lt_of_get q
      obtain ⟨g1, g2, g3, eg, hr⟩ := h1.set hi h2
      have pp : (fe ++ ft).Perm (g2 ++ ((g1 ++ f1 ++ g3) ++ f2)) := by
        rw [ef, eg]
        simp only [List.append_assoc]
        refine List.Perm.trans ?_ (List.perm_append_comm_assoc _ _ _)
        refine List.Perm.append_left _ (List.Perm.append_left _ ?_)
        exact List.perm_append_comm_assoc _ _ _
      have nd2 := pp.nodup nd
      refine ⟨⟨g1 ++ f1 ++ g3, f2, ?_, h3, nd2.sublist (List.sublist_append_right _ _), fun a ha => hF a (pp.mem_iff.mpr (List.mem_append_right _ ha))⟩, sep, zin, fin, fun j t hj hp => ?_, px⟩
      · rw [map_set_cont]; exact hr
      · by_cases ij : i = j
        · subst ij
          rw [List.getElem?_set_self (lt_of_get q)] at hj
          cases hj; cases hp
        · rw [List.getElem?_set_ne ij] at hj
          rw [List.getElem?_set_ne ij]
          exact pin j t hj hp
def tName (i : Nat) : Tg := fun o e => setS e i o
theorem hg_name {i : Nat} {x : Str} {ss : List Nat} (h : PG X (.Name x pos) (gName i)) (hi : i ∈ ss := by decide) : HG X cl (.Name x pos) ss (tName i) :=
  PG.imp h fun v σ H Q ⟨Z, F, P, e, T, o, r, k⟩ => by
    unfold tName at k
    cases q : setS e i o with
    | none => rw [q] at k; exact k.elim
    | some e' => rw [q] at k; exact k _ Z F H (.set hi) .refl (r.store q)
abbrev Tgs := List D → En → Option En
def rdGs (W : Wd) (ss : List Nat) (t : Tgs) : TGs := fun vs σ H Q => ∃ Z F P e T ds, ds.length = vs.length ∧ RS W Z F P e ((ds.map O.d).zip vs ++ T) σ H ∧ match t ds e with
  | some e' => ∀ σ' Z' F' H', Kps ss σ σ' → Stp Z F H Z' F' H' → RS W Z' F' P e' T σ' H' → Q σ' H'
  | none => False
def HGs (X : Cx) (cl : Cl) (tg : List Expr) (ss : List Nat) (t : Tgs) : Prop := PGs X tg (rdGs (Cx.wd X cl) ss t)
theorem PGs.imp {tg : List Expr} {t t' : TGs} (h : PGs X tg t) (k : ∀ v σ H Q, t' v σ H Q → t v σ H Q) : PGs X tg t' := ⟨fun pins s σ H v u Q I r q => h.run pins s σ H v u Q I r (k v σ H Q q)⟩
def tgNil : Tgs := fun ds e => match ds with
  | [] => some e
  | _ => none
def tgCons (a : Tg) (b : Tgs) : Tgs := fun ds e => match ds with
  | d :: r => (a (.d d) e).bind fun e1 => b r e1
  | [] => none
theorem hgs_nil {ss : List Nat} : HGs X cl [] ss tgNil := PGs.imp pgs_nil fun vs σ H Q ⟨Z, F, P, e, T, ds, hl, r, k⟩ => by
  cases ds with
  | nil => exact ⟨List.length_eq_zero_iff.mp hl.symm, k σ Z F H .refl .refl r⟩
  | cons _ _ => exact k.elim
theorem hgs_cons {a : Expr} {es : List Expr} {ss : List Nat} {t : Tg} {u : Tgs} (h1 : HG X cl a ss t) (h2 : HGs X cl es ss u) (hs : (assignEach (a :: es) X.env).map (·.2) = assign a X.env :: (assignEach es X.env).map (·.2) := by rfl) : HGs X cl (a :: es) ss (tgCons t u) :=
  PGs.imp (pgs_cons h1 h2 hs) fun vs σ H Q ⟨Z, F, P, e, T, ds, hl, r, k⟩ => by
    cases ds with
    | nil => exact k.elim
    | cons d ds =>
      cases vs with
      | nil => cases hl
      | cons v vs =>
        refine ⟨v, vs, rfl, Z, F, P, e, (ds.map O.d).zip vs ++ T, .d d, r, ?_⟩
        unfold tgCons at k
        simp only at k
        cases q : t (.d d) e with
        | none => rw [q] at k; exact k.elim
        | some e1 =>
          rw [q] at k
          simp only [Option.bind_some] at k
          intro σ1 Z1 F1 H1 k1 s1 r1
          refine ⟨Z1, F1, P, e1, T, ds, Nat.succ.inj hl, r1, ?_⟩
          cases q2 : u ds e1 with
          | none => rw [q2] at k; exact k.elim
          | some e2 => rw [q2] at k; exact fun σ2 Z2 F2 H2 k2 s2 r2 => k σ2 Z2 F2 H2 (k1.trans k2) (s1.trans s2) r2
def tTupl (t : Tgs) : Tg := fun o e => match o with
  | .d (.tup ds) => t ds e
  | _ => none
theorem hg_tup {es : List Expr} {k : Nat} {ss : List Nat} {t : Tgs} {n : Nat} (hc : X.calm = true) (h : HGs X cl es ss t) (hn : (assignEach es X.env).length = n := by rfl) (hst : (assignEach es X.env).findIdx? (·.1) = none := by rfl)
    (hlen : ∀ ds e e', t ds e = some e' → ds.length = n) : HG X cl (.Tuple es k pos) ss (tTupl t) :=
  PG.imp (pg_tup hc h hn hst) fun v σ H Q ⟨Z, F, P, e, T, o, r, k⟩ => by
    unfold tTupl at k
    split at k
    · rename_i e' q
      split at q
      · rename_i ds
        obtain ⟨a, vs, ev, hh, rd⟩ := r.topD
        refine ⟨a, vs, ev, hh.sq, by rw [← rd.len]; exact hlen ds e e' q, Z, F, P, e, T, ds, rd.len, ros_leaf rd r.pop, ?_⟩
        rw [q]; exact k
      · cases q
    · exact k.elim
theorem tg_len0 : ∀ ds e e', tgNil ds e = some e' → ds.length = 0
  | [], _, _, _ => rfl
  | _ :: _, _, _, h => by cases h
theorem tg_len {a : Tg} {b : Tgs} {n : Nat} (h : ∀ ds e e', b ds e = some e' → ds.length = n) : ∀ ds e e', tgCons a b ds e = some e' → ds.length = n + 1
  | [], _, _, q => by cases q
  | d :: ds, e, e', q => by
    unfold tgCons at q
    simp only at q
    cases q1 : a (.d d) e with
    | none => rw [q1] at q; cases q
    | some e1 =>
      rw [q1] at q
      rw [List.length_cons, h ds e1 e' q]
def sAsg (d : En → Rs O) (t : Tg) : En → Out := fun e => (d e).out fun o e1 => match t o e1 with
  | some e2 => .nx e2
  | none => .bad
theorem hs_asg {tg ex : Expr} {d} {ss : List Nat} {t : Tg} (he : HE X cl Wo ex d) (hg : HG X cl tg ss t) (hs : swapsWithSole [tg] ex pos.line X.env = pure false := by rfl) (hw : swappedStores [tg] ex X.env = pure none := by rfl)
    (h1 : (assignEach [tg] X.env).map (·.2) = [assign tg X.env] := by rfl) : HS X cl Wo (.Assign [tg] ex pos) (sAsg d t) :=
  PS.imp (ps_asg he hg hs hw h1) fun D σ H h => rdE_out h fun Z F P e T o v H1 r k => by
    refine ⟨Z, F, P, e, T, o, r, ?_⟩
    split at k
    · exact fun σ' Z' F' H' _ => k σ' Z' F' H'
    · exact k.elim
def sPar (i j : Nat) (d : En → Rs (List O)) : En → Out := fun e => (d e).out fun os e1 => match os with
  | [a, b] => match setS e1 i a with
    | some e2 => match setS e2 j b with
      | some e3 => .nx e3
      | none => .bad
    | none => .bad
  | _ => .bad
theorem rdA_out {d : En → Rs (List O)} {g : List O → En → Out} {K : List V → Hp → Prop} (h : rdS W Wo (fun e => (d e).out g) DD σ H)
    (hk : ∀ Z F P e T os vs H1, os.length = vs.length → RS W Z F P e (os.zip vs ++ T) σ H1 → PostS W Wo Z F P T H1 DD (g os e) → K vs H1) : rdA W Wo d σ H K := by
  obtain ⟨Z, F, P, e, T, r, k⟩ := h
  refine ⟨Z, F, P, e, T, r, ?_⟩
  cases q : d e with
  | ok os e1 => simp only [q, Rs.out] at k; exact fun vs Z1 F1 H1 hl s1 r1 => hk Z1 F1 P e1 T os vs H1 hl r1 (PostS.step s1 k)
  | exc c ps e1 => simp only [q, Rs.out] at k; exact k σ
  | bad => simp only [q, Rs.out] at k; exact k
theorem hs_par {i j : Nat} {st : Stmt} {d} (h : PS X st (tPar i j (rdA (Cx.wd X cl) Wo d))) : HS X cl Wo st (sPar i j d) :=
  PS.imp h fun D σ H h => rdA_out h fun Z F P e T os vs H1 hl r k => by
    match os, vs, hl with
    | [a, b], [v, w], _ =>
      refine ⟨v, w, rfl, ?_⟩
      simp only at k
      cases q1 : setS e i a with
      | none => rw [q1] at k; exact k.elim
      | some e2 =>
        rw [q1] at k
        simp only at k
        cases q2 : setS e2 j b with
        | none => rw [q2] at k; exact k.elim
        | some e3 =>
          rw [q2] at k
          exact k _ Z F H1 .refl (RS.store (RS.store r q1) q2)
    | [], _, _ => exact k.elim
    | [_], _, _ => exact k.elim
    | _ :: _ :: _ :: _, _, _ => exact k.elim
def sAug (i : Nat) (f : O → O → Option O) (d : En → Rs Ar) : En → Out := fun e => match slot e i with
  | some _ => (d e).out fun y e1 => match slot e1 i, y.get e1 with
    | some a, some b => match f a b with
      | some z => match setS e1 i z with
        | some e2 => .nx e2
        | none => .bad
      | none => .bad
    | _, _ => .bad
  | none => .bad
def ItOk (W : Wd) (J : It) (T2 : Ts) (ds : List D) : Prop :=
  ∀ (i : Nat) (Z F : Addr → Prop) (P : Nat → V) (e : En) (T : Ts) (σ : L2.St) (H : Hp), RS W Z F P e (T2 ++ T) σ H →
    (∀ d, ds[i]? = some d → J.go i H ∧ ∀ x H', J.yld i H x H' → ∃ Z' F', Stp Z F H Z' F' H' ∧ RS W Z' F' P e ((.d d, x) :: (T2 ++ T)) σ H') ∧ (i = ds.length → J.stop i H)
def rdI (W : Wd) (Wo : WX) (d : En → Rs (List D)) : TI := fun σ H R => ∃ Z F P e T, RS W Z F P e T σ H ∧ match d e with
  | .ok ds e' => ∀ Z' F' H' J T2, Stp Z F H Z' F' H' → RS W Z' F' P e' (T2 ++ T) σ H' → ItOk W J T2 ds → R J H'
  | .exc c ps e' => XOk W Wo Z F P T σ H c ps e'
  | .bad => False
def HI (X : Cx) (cl : Cl) (Wo : WX) (tg it : Expr) (d : En → Rs (List D)) : Prop := PI X tg it (rdI (Cx.wd X cl) Wo d)
theorem PI.imp {tg it : Expr} {t t' : TI} (h : PI X tg it t) (k : ∀ σ H R, t' σ H R → t σ H R) : PI X tg it t' := ⟨fun pins s σ H R I q => h.run pins s σ H R I (k σ H R q)⟩
def sForL (t : Tg) (b : En → Out) : List D → En → Out
  | [], e => .nx e
  | d :: ds, e => match t (.d d) e with
    | none => .bad
    | some e1 => match b e1 with
      | .nx e2 => sForL t b ds e2
      | .ct e2 => sForL t b ds e2
      | .bk e2 => .nx e2
      | r => r
def sFor (it : En → Rs (List D)) (t : Tg) (b : En → Out) : En → Out := fun e => (it e).out fun ds e1 => sForL t b ds e1
theorem hs_for {tg it : Expr} {body : List Stmt} {di} {ss : List Nat} {t : Tg} {db} (hp : PassesOwn (model X.prog X.w) X.A X.env X.xe) (hc : X.calm = true) (hi : HI X cl Wo tg it di) (hg : HG X cl tg ss t) (hb : HSs X cl Wo body db)
    (hs : ∀ x, foldedSetIterable it X.env x = pure x := by intro _; rfl) : HS X cl Wo (.For tg it body [] pos) (sFor di t db) :=
  PS.imp (ps_for hp hc hi hg hb hs) fun D σ H ⟨Z, F, P, e, T, r0, k⟩ => by
    refine ⟨Z, F, P, e, T, r0, ?_⟩
    unfold sFor at k
    cases q : di e with
    | bad => rw [q] at k; exact k
    | exc c ps e1 => rw [q] at k; exact k σ
    | ok ds e1 =>
      rw [q] at k
      simp only [Rs.out] at k
      intro Z1 F1 H1 J T2 s1 r1 hJ
      refine ⟨fun i m σ H => i + m = ds.length ∧ ∃ Z F e, RS (Cx.wd X cl) Z F P e (T2 ++ T) σ H ∧ PostS (Cx.wd X cl) Wo Z F P T H D (sForL t db (ds.drop i) e), ⟨ds.length, Nat.zero_add _, Z1, F1, e1, r1, PostS.step s1 k⟩, ?_⟩
      rintro i m σ H ⟨him, Z, F, e, r, k⟩
      obtain ⟨hgo, hstop⟩ := hJ i Z F P e T σ H r
      by_cases hi : i < ds.length
      · right
        have hd : ds[i]? = some ds[i] := List.getElem?_eq_getElem hi
        rw [List.drop_eq_getElem_cons hi] at k
        unfold sForL at k
        refine ⟨(hgo _ hd).1, fun σ' H' => i + 1 + (m - 1) = ds.length ∧ ∃ Z F e, RS (Cx.wd X cl) Z F P e (T2 ++ T) σ' H' ∧ PostS (Cx.wd X cl) Wo Z F P T H' D (sForL t db (ds.drop (i + 1)) e), fun σ' H' h => ⟨m - 1, by omega, h⟩, fun x H' hy => ?_⟩
        obtain ⟨Z2, F2, s2, r2⟩ := (hgo _ hd).2 x H' hy
        refine ⟨Z2, F2, P, e, T2 ++ T, .d ds[i], r2, ?_⟩
        cases q1 : t (.d ds[i]) e with
        | none => rw [q1] at k; exact k
        | some e2 =>
          rw [q1] at k
          simp only at k ⊢
          intro σ3 Z3 F3 H3 _ s3 r3
          refine ⟨Z3, F3, P, e2, T2 ++ T, r3, ?_⟩
          cases qb : db e2 with
          | nx e3 => rw [qb] at k; exact fun σ4 Z4 F4 H4 s4 r4 => ⟨by omega, Z4, F4, e3, r4, PostS.step ((s2.trans s3).trans s4) k⟩
          | ct e3 => rw [qb] at k; exact fun σ4 Z4 F4 H4 s4 r4 => ⟨by omega, Z4, F4, e3, r4, PostS.step ((s2.trans s3).trans s4) k⟩
          | bk e3 => rw [qb] at k; exact fun σ4 Z4 F4 H4 s4 r4 => k σ4 Z4 F4 H4 ((s2.trans s3).trans s4) r4.appPop
          | rt o e3 => rw [qb] at k; exact fun v σ4 Z4 F4 H4 s4 r4 => k v σ4 Z4 F4 H4 ((s2.trans s3).trans s4) ((r4.perm (T' := T2 ++ ((o, v) :: T)) List.perm_middle.symm).appPop)
          | exc c ps e3 => rw [qb] at k; exact fun σ4 => XOk.pops (XOk.step (s2.trans s3) (k σ4))
          | bad => rw [qb] at k; exact k
      · left
        have hge : ds.length ≤ i := Nat.le_of_not_lt hi
        rw [List.drop_of_length_le hge] at k
        exact ⟨hstop (by omega), k σ Z F H .refl r.appPop⟩
def iSeq (d : En → Rs O) : En → Rs (List D) := fun e => (d e).bind fun o e1 => match o with
  | .lst os => .ok (fzs os) e1
  | .d (.lst ds) => .ok ds e1
  | _ => .bad
def iTupl (d : En → Rs O) : En → Rs (List D) := fun e => (d e).bind fun o e1 => match o with
  | .d (.tup ds) => .ok ds e1
  | _ => .bad
theorem itl_ok {a : Addr} {v : V} {ds : List D} (hv : v = .ref a) : ItOk W (Itl W.K a) [(.d (.lst ds), v)] ds := by
  intro i Z F P e T σ H r
  have r' : RS W Z F P e ((.d (.lst ds), v) :: T) σ H := r
  obtain ⟨a', vs, ev, hh, rd⟩ := r'.topD
  rw [hv] at ev
  cases ev
  have hq : SqL W.K H a vs := .inl hh.2
  refine ⟨fun d hd => ?_, fun hle => ⟨vs, hq, by rw [← rd.len]; exact Nat.le_of_eq hle.symm⟩⟩
  obtain ⟨w, hw, rw'⟩ := rd.get hd
  exact ⟨⟨vs, w, hq, hw⟩, fun x H' ⟨eH, hx⟩ => by
    subst eH
    have := hx vs hq
    rw [hw] at this
    cases this
    exact ⟨Z, F, .refl, r.push rw'⟩⟩
theorem itt_ok {a : Addr} {v : V} {ds : List D} (hv : v = .ref a) : ItOk W (Itt W.K a) [(.d (.tup ds), v)] ds := by
  intro i Z F P e T σ H r
  have r' : RS W Z F P e ((.d (.tup ds), v) :: T) σ H := r
  obtain ⟨a', vs, ev, hh, rd⟩ := r'.topD
  rw [hv] at ev
  cases ev
  have hq : SqT W.K H a vs := hh.sq
  refine ⟨fun d hd => ?_, fun hle => ⟨vs, hq, by rw [← rd.len]; exact Nat.le_of_eq hle.symm⟩⟩
  obtain ⟨w, hw, rw'⟩ := rd.get hd
  exact ⟨⟨vs, w, hq, hw⟩, fun x H' ⟨eH, hx⟩ => by
    subst eH
    have := hx vs hq
    rw [hw] at this
    cases this
    exact ⟨Z, F, .refl, r.push rw'⟩⟩
theorem hi_list {tg it : Expr} {d} (h : HE X cl Wo it d) : HI X cl Wo tg it (iSeq d) :=
  PI.imp (pi_list h) fun σ H R ⟨Z, F, P, e, T, r0, k⟩ => by
    refine ⟨Z, F, P, e, T, r0, ?_⟩
    unfold iSeq at k
    cases q : d e with
    | bad => rw [q] at k; exact k
    | exc c ps e1 => rw [q] at k; exact k
    | ok o e1 =>
      rw [q] at k
      simp only [Rs.bind_ok] at k
      intro v Z1 F1 H1 s1 r1
      cases o with
      | lst os =>
        obtain ⟨Z2, F2, s2, r2⟩ := r1.freeze
        obtain ⟨a, vs, ev, hh, rd⟩ := r2.topD
        exact ⟨a, ev, ⟨vs, .inl hh.2⟩, k Z2 F2 H1 _ [(.d (.lst (fzs os)), v)] (s1.trans s2) r2 (itl_ok ev)⟩
      | d x =>
        cases x with
        | lst ds =>
          obtain ⟨a, vs, ev, hh, rd⟩ := r1.topD
          exact ⟨a, ev, ⟨vs, .inl hh.2⟩, k Z1 F1 H1 _ [(.d (.lst ds), v)] s1 r1 (itl_ok ev)⟩
        | _ => exact k.elim
      | _ => exact k.elim
theorem hi_tup {tg it : Expr} {d} (h : HE X cl Wo it d) : HI X cl Wo tg it (iTupl d) :=
  PI.imp (pi_tup h) fun σ H R ⟨Z, F, P, e, T, r0, k⟩ => by
    refine ⟨Z, F, P, e, T, r0, ?_⟩
    unfold iTupl at k
    cases q : d e with
    | bad => rw [q] at k; exact k
    | exc c ps e1 => rw [q] at k; exact k
    | ok o e1 =>
      rw [q] at k
      simp only [Rs.bind_ok] at k
      intro v Z1 F1 H1 s1 r1
      cases o with
      | d x =>
        cases x with
        | tup ds =>
          obtain ⟨a, vs, ev, hh, rd⟩ := r1.topD
          exact ⟨a, ev, ⟨vs, hh.sq⟩, k Z1 F1 H1 _ [(.d (.tup ds), v)] s1 r1 (itt_ok ev)⟩
        | _ => exact k.elim
      | _ => exact k.elim
end
end MX
namespace MX
open PySem L2
abbrev Ag := O × Option Nat
def tmC (as : List Ag) (vs : List V) : Ts := (as.map (·.1)).zip vs
def lends (σ : L2.St) : List Ag → List V → Prop
  | (_, some i) :: as, v :: vs => σ[i]? = some (some v) ∧ lends σ as vs
  | (_, none) :: as, _ :: vs => lends σ as vs
  | _, _ => True
def PostC (W : Wd) (Wo : WX) (Z F : Addr → Prop) (P : Nat → V) (T : Ts) (σ : L2.St) (H : Hp) (Q : List V → Hp → Prop) : Rs (List Ag) → Prop
  | .ok as e => ∀ vs Z' F' H', as.length = vs.length → Stp Z F H Z' F' H' → RS W Z' F' P e (tmC as vs ++ T) σ H' → lends σ as vs → Q vs H'
  | .exc c ps e => XOk W Wo Z F P T σ H c ps e
  | .bad => False
def rdC (W : Wd) (Wo : WX) (d : En → Rs (List Ag)) : TA := fun σ H Q => ∃ Z F P e T, RS W Z F P e T σ H ∧ PostC W Wo Z F P T σ H Q (d e)
def LenIs {α : Type} (n : Nat) (d : En → Rs (List α)) : Prop := ∀ e as e', d e = .ok as e' → as.length = n
structure HC (X : Cx) (cl : Cl) (Wo : WX) (es : List Expr) (n : Nat) (d : En → Rs (List Ag)) : Prop where
  run : PA X es (rdC (Cx.wd X cl) Wo d)
  len : LenIs n d
structure HCK (X : Cx) (cl : Cl) (Wo : WX) (kws : List Keyword) (n : Nat) (d : En → Rs (List Ag)) : Prop where
  run : PK X kws (rdC (Cx.wd X cl) Wo d)
  len : LenIs n d
def lentS (e : En) (i : Nat) : En := modS Sl.lent e i
def gName (i : Nat) : En → Rs Ag := fun e => match slot e i with
  | some (.d x) => .ok (.d x, none) e
  | some o => .ok (o, some i) (lentS e i)
  | none => .bad
def gVal (d : En → Rs O) : En → Rs Ag := fun e => (d e).bind fun o e1 => .ok (o, none) e1
def cNil : En → Rs (List Ag) := fun e => .ok [] e
def cCons (g : En → Rs Ag) (r : En → Rs (List Ag)) : En → Rs (List Ag) := fun e => (g e).bind fun a e1 => (r e1).bind fun as e2 => .ok (a :: as) e2
section
variable {X : Cx} {cl : Cl} {Wo : WX} {pos : Pos}
variable {W : Wd} {Z F Z' F' : Addr → Prop} {P P' : Nat → V} {e : En} {T : Ts} {σ : L2.St} {H H' : Hp} {Q : VK}
def PostG (W : Wd) (Wo : WX) (Z F : Addr → Prop) (P : Nat → V) (T : Ts) (σ : L2.St) (H : Hp) (Q : VK) : Rs Ag → Prop
  | .ok a e => ∀ v Z' F' H', Stp Z F H Z' F' H' → RS W Z' F' P e ((a.1, v) :: T) σ H' → lends σ [a] [v] → Q v H'
  | .exc c ps e => XOk W Wo Z F P T σ H c ps e
  | .bad => False
def rdGa (W : Wd) (Wo : WX) (d : En → Rs Ag) : TE := fun σ H Q => ∃ Z F P e T, RS W Z F P e T σ H ∧ PostG W Wo Z F P T σ H Q (d e)
def HGa (X : Cx) (cl : Cl) (Wo : WX) (ex : Expr) (g : En → Rs Ag) : Prop := PE X ex (rdGa (Cx.wd X cl) Wo g)
theorem ga_name {i : Nat} {x : Str} (h : PE X (.Name x pos) (tVar i)) : HGa X cl Wo (.Name x pos) (gName i) :=
  PE.imp h fun σ H Q ⟨Z, F, P, e, T, r, k⟩ => by
    unfold gName at k
    cases q : slot e i with
    | none => rw [q] at k; exact k.elim
    | some o =>
      rw [q] at k
      obtain ⟨s, hs, hc⟩ := slot_some q
      have lend : ∃ v, σ[i]? = some (some v) ∧ RS (Cx.wd X cl) Z F P (lentS e i) ((o, v) :: T) σ H := by
        obtain ⟨v, hv, r1⟩ := r.lend hs hc
        exact ⟨v, hv, by unfold lentS; rw [modS_eq hs]; exact r1⟩
      cases o with
      | d x =>
        obtain ⟨v, f, hv, hr, _⟩ := slot_get r q
        exact ⟨v, hv, k v Z F H .refl (r.push hr.1) trivial⟩
      | _ =>
        obtain ⟨v, hv, r1⟩ := lend
        exact ⟨v, hv, k v Z F H .refl r1 ⟨hv, trivial⟩⟩
theorem ga_val {ex : Expr} {d} (h : HE X cl Wo ex d) : HGa X cl Wo ex (gVal d) :=
  PE.imp h fun σ H Q ⟨Z, F, P, e, T, r, k⟩ => by
    refine ⟨Z, F, P, e, T, r, ?_⟩
    unfold gVal at k
    cases q : d e with
    | bad => rw [q] at k; exact k
    | exc c ps e1 => rw [q] at k; exact k
    | ok o e1 => rw [q] at k; exact fun v Z1 F1 H1 s1 r1 => k v Z1 F1 H1 s1 r1 trivial
theorem lends_cons {a : Ag} {as : List Ag} {v : V} {vs : List V} (h : lends σ [a] [v]) (h' : lends σ as vs) : lends σ (a :: as) (v :: vs) := by
  obtain ⟨o, i⟩ := a
  cases i with
  | none => exact h'
  | some i => exact ⟨h.1, h'⟩
theorem rdC_nil {Q : List V → Hp → Prop} (h : rdC W Wo cNil σ H Q) : Q [] H := by
  obtain ⟨Z, F, P, e, T, r, k⟩ := h
  exact k [] Z F H rfl .refl r trivial
theorem rdC_cons {g : En → Rs Ag} {r : En → Rs (List Ag)} {Q : List V → Hp → Prop} (h : rdC W Wo (cCons g r) σ H Q) : rdGa W Wo g σ H fun x H1 => rdC W Wo r σ H1 fun xs H2 => Q (x :: xs) H2 := by
  obtain ⟨Z, F, P, e, T, r0, k⟩ := h
  refine ⟨Z, F, P, e, T, r0, ?_⟩
  unfold cCons at k
  cases qa : g e with
  | bad => rw [qa] at k; exact k
  | exc c ps e1 => rw [qa] at k; exact k
  | ok a e1 =>
    rw [qa] at k
    simp only [Rs.bind_ok] at k
    intro v Z1 F1 H1 s1 r1 l1
    refine ⟨Z1, F1, P, e1, (a.1, v) :: T, r1, ?_⟩
    cases qb : r e1 with
    | bad => rw [qb] at k; exact k
    | exc c ps e' => rw [qb] at k; exact XOk.popped (XOk.step s1 k)
    | ok as e2 =>
      rw [qb] at k
      simp only [Rs.bind_ok] at k
      intro vs Z2 F2 H2 hl s2 r2 l2
      exact k (v :: vs) Z2 F2 H2 (by rw [List.length_cons, List.length_cons, hl]) (s1.trans s2) (r2.perm List.perm_middle) (lends_cons l1 l2)
theorem len_nil : LenIs 0 cNil := fun e as e' h => by cases h; rfl
theorem len_cons {g : En → Rs Ag} {r : En → Rs (List Ag)} {n : Nat} (h : LenIs n r) : LenIs (n + 1) (cCons g r) := fun e as e' q => by
  unfold cCons at q
  cases qa : g e with
  | bad => rw [qa] at q; cases q
  | exc c ps e1 => rw [qa] at q; cases q
  | ok a e1 =>
    rw [qa] at q
    simp only [Rs.bind_ok] at q
    cases qb : r e1 with
    | bad => rw [qb] at q; cases q
    | exc c ps e1 => rw [qb] at q; cases q
    | ok bs e2 =>
      rw [qb] at q
      cases q
      rw [List.length_cons, h e1 bs _ qb]
theorem hc_nil : HC X cl Wo [] 0 cNil := ⟨PA.imp pa_nil fun σ H Q h => rdC_nil h, len_nil⟩
theorem hc_cons {a : Expr} {es : List Expr} {n : Nat} {g r} (ha : HGa X cl Wo a g) (hr : HC X cl Wo es n r) (hs : starEach (a :: es) X.env = (false, eval a X.env) :: starEach es X.env := by rfl) : HC X cl Wo (a :: es) (n + 1) (cCons g r) :=
  ⟨PA.imp (pa_cons ha hr.run hs) fun σ H Q h => rdC_cons h, len_cons hr.len⟩
theorem PK.imp {kws : List Keyword} {t t' : TA} (h : PK X kws t) (k : ∀ σ H Q, t' σ H Q → t σ H Q) : PK X kws t' := ⟨fun pos pins s σ H Q I q => h.run pos pins s σ H Q I (k σ H Q q)⟩
theorem hck_nil : HCK X cl Wo [] 0 cNil := ⟨PK.imp pk_nil fun σ H Q h => rdC_nil h, len_nil⟩
theorem hck_cons {a : Expr} {kws : List Keyword} {nm : Option Str} {kpos : Pos} {n : Nat} {g r} (ha : HGa X cl Wo a g) (hr : HCK X cl Wo kws n r) : HCK X cl Wo (⟨nm, a, kpos⟩ :: kws) (n + 1) (cCons g r) :=
  ⟨PK.imp (pk_cons ha hr.run) fun σ H Q h => rdC_cons h, len_cons hr.len⟩
def cApp (a b : En → Rs (List Ag)) : En → Rs (List Ag) := fun e => (a e).bind fun as e1 => (b e1).bind fun bs e2 => .ok (as ++ bs) e2
def ord {α : Type} (p : List Nat) (l : List α) : List α := p.filterMap fun i => l[i]?
theorem ord_range {α : Type} (l : List α) : ord (List.range l.length) l = l := by
  unfold ord
  induction l with
  | nil => rfl
  | cons x l ih =>
    rw [List.length_cons, List.range_succ_eq_map, List.filterMap_cons]
    simp only [List.getElem?_cons_zero, List.filterMap_map]
    congr 1
theorem ord_perm {α : Type} {p : List Nat} {l : List α} (h : p.Perm (List.range l.length)) : (ord p l).Perm l := by
  have := h.filterMap (fun i => l[i]?)
  rw [show (List.range l.length).filterMap (fun i => l[i]?) = l from ord_range l] at this
  exact this
theorem ord_map {α β : Type} (f : α → β) (p : List Nat) (l : List α) : ord p (l.map f) = (ord p l).map f := by
  unfold ord
  rw [List.map_filterMap]
  congr 1
  funext i
  rw [List.getElem?_map]
theorem ord_len {α β : Type} {p : List Nat} {l : List α} {k : List β} (h : l.length = k.length) : (ord p l).length = (ord p k).length := by
  unfold ord
  induction p with
  | nil => rfl
  | cons i p ih =>
    rw [List.filterMap_cons, List.filterMap_cons]
    rcases Nat.lt_or_ge i l.length with q | q
    · rw [List.getElem?_eq_getElem q, List.getElem?_eq_getElem (by omega)]
      simp only [List.length_cons, ih]
    · rw [List.getElem?_eq_none q, List.getElem?_eq_none (by omega)]
      exact ih
theorem ord_zip {α β : Type} {p : List Nat} : ∀ {l : List α} {k : List β}, l.length = k.length → ord p (l.zip k) = (ord p l).zip (ord p k) := by
  intro l k h
  unfold ord
  induction p with
  | nil => rfl
  | cons i p ih =>
    rw [List.filterMap_cons, List.filterMap_cons, List.filterMap_cons]
    rcases Nat.lt_or_ge i l.length with q | q
    · have q2 : i < k.length := by omega
      have q3 : i < (l.zip k).length := by rw [List.length_zip]; omega
      rw [List.getElem?_eq_getElem q, List.getElem?_eq_getElem q2, List.getElem?_eq_getElem q3]
      simp only [List.getElem_zip, List.zip_cons_cons, ih]
    · have q2 : k.length ≤ i := by omega
      have q3 : (l.zip k).length ≤ i := by rw [List.length_zip]; omega
      rw [List.getElem?_eq_none q, List.getElem?_eq_none q2, List.getElem?_eq_none q3]
      exact ih
theorem lends_get : ∀ {as : List Ag} {vs : List V}, as.length = vs.length → (lends σ as vs ↔ ∀ (j : Nat) o i v, as[j]? = some (o, some i) → vs[j]? = some v → σ[i]? = some (some v))
  | [], [], _ => ⟨fun _ j o i v h => by simp at h, fun _ => trivial⟩
  | [], _ :: _, h => by cases h
  | _ :: _, [], h => by cases h
  | (o, none) :: as, v :: vs, h => by
    refine ⟨fun hl j o i w h1 h2 => ?_, fun hl => (lends_get (as := as) (Nat.succ.inj h)).mpr fun j o i w h1 h2 => hl (j + 1) o i w h1 h2⟩
    cases j with
    | zero => cases h1
    | succ j => exact (lends_get (as := as) (Nat.succ.inj h)).mp hl j o i w h1 h2
  | (o, some i) :: as, v :: vs, h => by
    refine ⟨fun hl j o' i' w h1 h2 => ?_, fun hl => ⟨hl 0 o i v rfl rfl, (lends_get (as := as) (Nat.succ.inj h)).mpr fun j o i w h1 h2 => hl (j + 1) o i w h1 h2⟩⟩
    cases j with
    | zero => cases h1; cases h2; exact hl.1
    | succ j => exact (lends_get (as := as) (Nat.succ.inj h)).mp hl.2 j o' i' w h1 h2
theorem lends_ord {p : List Nat} {as : List Ag} {vs : List V} (hl : as.length = vs.length) (h : lends σ as vs) : lends σ (ord p as) (ord p vs) := by
  rw [lends_get hl] at h
  rw [lends_get (ord_len hl)]
  intro j o i v h1 h2
  have : (ord p (as.zip vs))[j]? = some ((o, some i), v) := by
    rw [ord_zip hl, List.getElem?_zip_eq_some]
    exact ⟨h1, h2⟩
  have hm : ((o, some i), v) ∈ ord p (as.zip vs) := List.mem_of_getElem? this
  unfold ord at hm
  obtain ⟨q, hq, e⟩ := List.mem_filterMap.mp hm
  rw [List.getElem?_zip_eq_some] at e
  exact h q o i v e.1 e.2
def livs : List (Option O) → List V → Ts
  | some o :: ps, v :: vs => (o, v) :: livs ps vs
  | none :: ps, _ :: vs => livs ps vs
  | _, _ => []
def wb : En → List Ag → List (Option O) → Option En
  | e, (_, some i) :: as, some o :: ps => match e[i]? with
    | some s => match s.cont with
      | none => wb (putS e i o) as ps
      | some _ => none
    | none => none
  | e, _ :: as, _ :: ps => wb e as ps
  | e, _, _ => some e
theorem RS.wb : ∀ {as : List Ag} {ps : List (Option O)} {vs : List V} {e e' : En} {T : Ts}, as.length = vs.length → RS W Z F P e (livs ps vs ++ T) σ H → lends σ as vs → wb e as ps = some e' → RS W Z F P e' T σ H
  | [], ps, vs, e, e', T, hl, r, _, h => by
    have : e = e' := by
      cases ps with
      | nil => exact Option.some.inj h
      | cons p ps => exact Option.some.inj h
    subst this
    exact r.appPop
  | _ :: _, _, [], _, _, _, hl, _, _, _ => by cases hl
  | a :: as, [], v :: vs, e, e', T, hl, r, _, h => by
    have : e = e' := by
      obtain ⟨o, i⟩ := a
      cases i <;> exact Option.some.inj h
    subst this
    exact r.appPop
  | (o, none) :: as, none :: ps, v :: vs, e, e', T, hl, r, l, h => RS.wb (as := as) (ps := ps) (Nat.succ.inj hl) r l h
  | (o, none) :: as, some p :: ps, v :: vs, e, e', T, hl, r, l, h => RS.wb (as := as) (ps := ps) (Nat.succ.inj hl) (RS.pop r) l h
  | (o, some i) :: as, none :: ps, v :: vs, e, e', T, hl, r, l, h => RS.wb (as := as) (ps := ps) (Nat.succ.inj hl) r l.2 h
  | (o, some i) :: as, some p :: ps, v :: vs, e, e', T, hl, r, l, h => by
    unfold MX.wb at h
    cases q : e[i]? with
    | none => rw [q] at h; cases h
    | some s =>
      rw [q] at h
      simp only at h
      cases q2 : s.cont with
      | some _ => rw [q2] at h; cases h
      | none =>
        rw [q2] at h
        simp only at h
        have r1 : RS W Z F P e ((p, v) :: (livs ps vs ++ T)) σ H := r
        have r2 := r1.back q q2 l.1
        refine RS.wb (as := as) (ps := ps) (Nat.succ.inj hl) ?_ l.2 h
        unfold putS
        rw [modS_eq q]
        exact r2
theorem RS.frame {C : Ts} (r : RS W Z F P e (C ++ T) σ H) (P0 : Nat → V) : ∃ Fc, RS W.un Z Fc P0 [] C [] H ∧
    ∀ Z' F' H' C' P1, Stp Z Fc H Z' F' H' → RS W.un Z' F' P1 [] C' [] H' → ∃ F2, Stp Z F H Z' F2 H' ∧ RS W Z' F2 P e (C' ++ T) σ H' := by
  obtain ⟨⟨fe, ft, h1, h2, nd, hF⟩, sep, zin, fin, pin, px⟩ := r
  rw [List.map_append, List.map_append] at h2
  obtain ⟨vs', us, fa, fT, ew, ef, a1, a2⟩ := h2.split
  have hl2 : vs'.length = (C.map (·.2)).length := by rw [← a1.len, List.length_map, List.length_map]
  have e1 := List.append_inj ew hl2.symm
  obtain ⟨rfl, rfl⟩ : vs' = C.map (·.2) ∧ us = T.map (·.2) := ⟨e1.1.symm, e1.2.symm⟩
  subst ef
  have fa_F : ∀ a ∈ fa, F a := fun a ha => hF a (List.mem_append_right _ (List.mem_append_left _ ha))
  have fe_F : ∀ a ∈ fe, F a := fun a ha => hF a (List.mem_append_left _ ha)
  have fT_F : ∀ a ∈ fT, F a := fun a ha => hF a (List.mem_append_right _ (List.mem_append_right _ ha))
  have nd1 := List.nodup_append.mp nd
  have nd2 := List.nodup_append.mp nd1.2.1
  have fe_fa : ∀ a ∈ fe, a ∉ fa := fun a ha hb => nd1.2.2 a ha a (List.mem_append_left _ hb) rfl
  have fe_fT : ∀ a ∈ fe, a ∉ fT := fun a ha hb => nd1.2.2 a ha a (List.mem_append_right _ hb) rfl
  have fT_fa : ∀ a ∈ fT, a ∉ fa := fun a ha hb => nd2.2.2 a hb a ha rfl
  refine ⟨fun a => a ∈ fa, ⟨⟨[], fa, ⟨rfl, rfl⟩, ROs.wx (W := W) (W' := W.un) ⟨rfl, rfl⟩ _ _ _ a1, nd2.1, fun a ha => ha⟩, fun a ha => sep a (fa_F a ha), zin, fun a ha => fin a (fa_F a ha), fun i s h => by simp at h, fun i a h => by cases h⟩, ?_⟩
  intro Z' F' H' C' P1 s r'
  obtain ⟨⟨fe', f', ⟨_, efe⟩, h2'', nd', hF'⟩, sep', zin', fin', _⟩ := r'
  have h2' : ROs W H' Z' (C'.map (·.1)) (C'.map (·.2)) f' := ROs.wx (W := W.un) (W' := W) ⟨rfl, rfl⟩ _ _ _ h2''
  subst efe
  have hin : ∀ a, F a → H a ≠ none := fun a ha q => notMut_none q (fin a ha)
  have out : ∀ a, F a → a ∉ fa → ¬ F' a := fun a ha hb hc => (s.f' a hc).elim hb (hin a ha)
  have keepF : ∀ a, F a → a ∉ fa → ∀ u, H a = some u → H' a = some u := fun a _ hb u hu => s.keep a u hu hb
  have kp : Kp H Z H' Z' := ⟨s.z, fun a o z h => s.keep a o h fun hf => sep a (fa_F a hf) z, fun a xs h => s.keep a _ h fun hf => notMut_tup h (fin a (fa_F a hf)), fun a o u h => s.keep a _ h fun hf => notMut_frz h (fin a (fa_F a hf))⟩
  refine ⟨fun a => F' a ∨ a ∈ fe ∨ a ∈ fT, ⟨s.z, fun a o h nf => s.keep a o h fun hf => nf (fa_F a hf), s.dom, fun a h => ?_, fun a h => ?_⟩, ⟨⟨fe, f' ++ fT, h1.keep kp _ _ _ fun a ha => keepF a (fe_F a ha) (fe_fa a ha), ?_, ?_, fun a ha => ?_⟩, fun a h z => ?_, zin', fun a h => ?_, pin, px⟩⟩
  · rcases h with h | h | h
    · exact (s.f' a h).imp (fa_F a) id
    · exact .inl (fe_F a h)
    · exact .inl (fT_F a h)
  · rcases s.z' a h with q | q | q
    · exact .inl q
    · exact .inr (.inl (fa_F a q))
    · exact .inr (.inr q)
  · rw [List.map_append, List.map_append]
    exact ROs.append h2' (a2.keep kp _ _ _ fun a ha => keepF a (fT_F a ha) (fT_fa a ha))
  · rw [List.nodup_append]
    refine ⟨nd1.1, ?_, fun a ha b hb => ?_⟩
    · rw [List.nodup_append]
      exact ⟨nd', nd2.2.1, fun a ha b hb e => out b (fT_F b hb) (fT_fa b hb) (by rw [← e]; exact hF' a ha)⟩
    · intro e
      rcases List.mem_append.mp hb with q | q
      · exact out a (fe_F a ha) (fe_fa a ha) (by rw [e]; exact hF' b q)
      · exact fe_fT a ha (by rw [e]; exact q)
  · rcases List.mem_append.mp ha with q | q
    · exact .inr (.inl q)
    · rcases List.mem_append.mp q with q | q
      · exact .inl (hF' a q)
      · exact .inr (.inr q)
  · rcases h with h | h | h
    · exact sep' a h z
    · rcases s.z' a z with q | q | q
      · exact sep a (fe_F a h) q
      · exact fe_fa a h q
      · exact hin a (fe_F a h) q
    · rcases s.z' a z with q | q | q
      · exact sep a (fT_F a h) q
      · exact fT_fa a h q
      · exact hin a (fT_F a h) q
  · rcases h with h | h | h
    · exact fin' a h
    · have m := fin a (fe_F a h)
      cases q : H a with
      | none => rw [q] at m; exact m.elim
      | some u => rw [keepF a (fe_F a h) (fe_fa a h) u q, ← q]; exact m
    · have m := fin a (fT_F a h)
      cases q : H a with
      | none => rw [q] at m; exact m.elim
      | some u => rw [keepF a (fT_F a h) (fT_fa a h) u q, ← q]; exact m
end
end MX
namespace MX
open PySem L2
open PyProof.Rows (envOfC)
def spD (W : Wd) (n : Nat) (den : Den) : Sp := fun vs H Q E => ∃ Z F P os, RS W Z F P [] (os.zip vs) [] H ∧ os.length = vs.length ∧ vs.length = n ∧ match den os with
  | .ok o ps => ∀ v Z' F' H' P', Stp Z F H Z' F' H' → RS W Z' F' P' [] ((o, v) :: livs ps vs) [] H' → Q v H'
  | .exc c pl ps => ∀ Z' F' H' P' C dd, W.cl c = some C → Pay W H' Z' pl dd → Stp Z F H Z' F' H' → RS W Z' F' P' [] (livs ps vs) [] H' → E (.ref C) dd H'
  | .bad => False
theorem spD_len {W : Wd} {n : Nat} {den : Den} {ps : List Str} (hn : n = ps.length) : ∀ vs H Q E, spD W n den vs H Q E → vs.length = ps.length := fun vs H Q E ⟨Z, F, P, os, r, hl, hn', _⟩ => by rw [hn', hn]
def initE : List Bool → List O → Nat → En
  | true :: m, o :: os, n => .p o :: initE m os (n - 1)
  | _ :: m, o :: os, n => .v o :: initE m os (n - 1)
  | _, _, n => List.replicate n .no
def outE : Nat → En → List (Option O)
  | 0, _ => []
  | n + 1, [] => none :: outE n []
  | n + 1, .p o :: e => some o :: outE n e
  | n + 1, _ :: e => none :: outE n e
def denFn (mask : List Bool) (n : Nat) (b : En → Out) : Den := fun os => match b (initE mask os n) with
  | .rt o e => .ok o (outE mask.length e)
  | .nx e => .ok (.d .non) (outE mask.length e)
  | .exc c pl e => .exc c pl (outE mask.length e)
  | _ => .bad
section
variable {W : Wd} {Z F : Addr → Prop} {P : Nat → V} {e : En} {T : Ts} {σ : L2.St} {H : Hp}
theorem init_env : ∀ {mask : List Bool} {os : List O} {vs : List V} {n : Nat} {f : List Addr}, mask.length = os.length → os.length ≤ n → ROs W H Z os vs f → REnv W H Z ((initE mask os n).map Sl.cont) (vs.map some ++ List.replicate (n - vs.length) none) f
  | [], [], vs, n, f, _, _, ⟨e, ef⟩ => by
    subst e ef
    have : ∀ k, REnv W H Z ((List.replicate k Sl.no).map Sl.cont) (List.replicate k (none : Option V)) [] := by
      intro k
      induction k with
      | zero => exact ⟨rfl, rfl⟩
      | succ k ih => exact ⟨none, _, rfl, ih⟩
    exact this n
  | [], _ :: _, _, _, _, h, _, _ => by cases h
  | _ :: _, [], _, _, _, h, _, _ => by cases h
  | b :: mask, o :: os, vs, 0, f, _, h, _ => absurd h (Nat.not_succ_le_zero _)
  | b :: mask, o :: os, vs, n + 1, f, hm, hn, ⟨v, r, f1, f2, ev, ef, h1, h2⟩ => by
    subst ev ef
    have ih := init_env (mask := mask) (n := n) (Nat.succ.inj hm) (Nat.le_of_succ_le_succ hn) h2
    have e2 : n + 1 - (v :: r).length = n - r.length := by rw [List.length_cons]; omega
    rw [e2]
    cases b with
    | true => exact ⟨v, _, f1, f2, rfl, rfl, h1, ih⟩
    | false => exact ⟨v, _, f1, f2, rfl, rfl, h1, ih⟩
theorem init_pin : ∀ {mask : List Bool} {os : List O} {vs : List V} {n : Nat}, mask.length = os.length → os.length = vs.length → ∀ (i : Nat) (s : Sl), (initE mask os n)[i]? = some s → s.pinned = true → ∃ v, vs[i]? = some v
  | [], [], [], n, _, _, i, s, h, hp => by
    have : s = .no := by
      rw [show initE [] [] n = List.replicate n .no from rfl, List.getElem?_replicate] at h
      split at h
      · exact (Option.some.inj h).symm
      · cases h
    subst this; cases hp
  | b :: mask, o :: os, v :: vs, n, _, _, 0, s, _, _ => ⟨v, rfl⟩
  | b :: mask, o :: os, v :: vs, n, h1, h2, i + 1, s, h, hp => by
    have h' : (initE mask os (n - 1))[i]? = some s := by cases b <;> exact h
    exact init_pin (mask := mask) (Nat.succ.inj h1) (Nat.succ.inj h2) i s h' hp
  | [], _ :: _, _, _, h, _, _, _, _, _ => by cases h
  | _ :: _, [], _, _, h, _, _, _, _, _ => by cases h
  | [], [], _ :: _, _, _, h, _, _, _, _ => by cases h
  | _ :: _, _ :: _, [], _, _, h, _, _, _, _ => by cases h
theorem outs : ∀ {n : Nat} {e : En} {σ : L2.St} {vs : List V} {f : List Addr}, REnv W H Z (e.map Sl.cont) σ f → (∀ (i : Nat) (s : Sl) v, e[i]? = some s → s.pinned = true → vs[i]? = some v → σ[i]? = some (some v)) →
    ∃ g, ROs W H Z ((livs (outE n e) vs).map (·.1)) ((livs (outE n e) vs).map (·.2)) g ∧ g.Sublist f
  | 0, e, σ, vs, f, _, _ => ⟨[], ⟨rfl, rfl⟩, List.nil_sublist _⟩
  | n + 1, [], σ, [], f, _, _ => ⟨[], ⟨rfl, rfl⟩, List.nil_sublist _⟩
  | n + 1, [], σ, v :: vs, f, h, hp => outs (n := n) (e := []) (σ := σ) (vs := vs) h fun i s w h1 => by simp at h1
  | n + 1, s :: e, σ, [], f, _, _ => ⟨[], by cases s <;> exact ⟨rfl, rfl⟩, List.nil_sublist _⟩
  | n + 1, .p o :: e, σ, v :: vs, f, ⟨w, r, f1, f2, es, ef, h1, h2⟩, hp => by
    subst es ef
    have : w = v := Option.some.inj (Option.some.inj (hp 0 (.p o) v rfl rfl rfl))
    subst this
    obtain ⟨g, hg, sg⟩ := outs (n := n) (vs := vs) h2 fun i s u h1 h2 h3 => hp (i + 1) s u h1 h2 h3
    exact ⟨f1 ++ g, ⟨w, _, f1, g, rfl, rfl, h1, hg⟩, List.Sublist.append_left sg f1⟩
  | n + 1, .v o :: e, σ, v :: vs, f, ⟨w, r, f1, f2, es, ef, h1, h2⟩, hp => by
    subst es ef
    obtain ⟨g, hg, sg⟩ := outs (n := n) (vs := vs) h2 fun i s u h1 h2 h3 => hp (i + 1) s u h1 h2 h3
    exact ⟨g, hg, sg.trans (List.sublist_append_right _ _)⟩
  | n + 1, .no :: e, σ, v :: vs, f, ⟨w, r, es, h2⟩, hp => by
    subst es
    exact outs (n := n) (vs := vs) h2 fun i s u h1 h2 h3 => hp (i + 1) s u h1 h2 h3
  | n + 1, .pn :: e, σ, v :: vs, f, ⟨w, r, es, h2⟩, hp => by
    subst es
    exact outs (n := n) (vs := vs) h2 fun i s u h1 h2 h3 => hp (i + 1) s u h1 h2 h3
theorem RS.outs {vs : List V} {n : Nat} (r : RS W Z F P e T σ H) (hp : ∀ (i : Nat) v, vs[i]? = some v → P i = v) : RS W Z F P [] (T ++ livs (outE n e) vs) [] H := by
  obtain ⟨⟨fe, ft, h1, h2, nd, hF⟩, sep, zin, fin, pin, px⟩ := r
  obtain ⟨g, hg, sg⟩ := MX.outs (n := n) (vs := vs) h1 fun i s v h1 h2 h3 => by rw [← hp i v h3]; exact pin i s h1 h2
  have nd' : (ft ++ fe).Nodup := (List.perm_append_comm).nodup nd
  refine ⟨⟨[], ft ++ g, ⟨rfl, rfl⟩, by rw [List.map_append, List.map_append]; exact ROs.append h2 hg, nd'.sublist (List.Sublist.append_left sg ft), fun a ha => hF a ?_⟩, sep, zin, fin, fun i s h => by simp at h, px⟩
  rw [List.nil_append] at ha
  rcases List.mem_append.mp ha with q | q
  · exact List.mem_append_right _ q
  · exact List.mem_append_left _ (sg.subset q)
end
theorem fn_ok {Pg : Program} {w : World} {K : PySem.W.Frag} {mg : Str → Option Value} {base : Heap} {cl : Cl} {x qual : Str} {st : Stmt} {f : Addr} {fd : FuncData} {N ps : List Str} {k : Nat} {mask : List Bool} {db : En → Out}
    (hex : cl.ex = none) (Fn : Fun K x qual st f fd) (S : FnScope N ps (defScope st)) (hm : mask.length = ps.length) (hN : ps.length ≤ N.length)
    (hb : ∀ (cdv : Value) (A : Around) (outer : List Env) (s : Shared) (H : Hp) (E : XK), Room k (A.deeper (envOfC qual (defScope st) s.heap.objs.size f cdv)) →
      HSs (cxOf (L2.CX Pg w) Pg w K mg base N qual (defScope st) f cdv A outer s H E) cl (fun c d _ H => E c d H) (defBody st) db) :
    FnOk Pg w K mg base (L2.CX Pg w) (k + 1) f fd ps (spD ⟨K, cl.f, none⟩ ps.length (denFn mask N.length db)) := by
  obtain ⟨cf, ce⟩ := cl
  cases (show ce = none from hex)
  refine Fn.okX S (spD_len rfl) (fun cdv A outer s H vs Q E hr h => ?_)
  refine ⟨_, hb cdv A outer s H E hr, ?_⟩
  obtain ⟨Z, F, P, os, r, hl, hn, k⟩ := h
  have hmo : mask.length = os.length := by rw [hm, hl, hn]
  obtain ⟨⟨fe, ft, ⟨_, efe⟩, h2, nd, hF⟩, sep, zin, fin, _⟩ := r
  subst efe
  rw [List.map_fst_zip (Nat.le_of_eq hl), List.map_snd_zip (Nat.le_of_eq hl.symm)] at h2
  have hon : os.length ≤ N.length := by rw [hl, hn]; exact hN
  have hP : ∀ (i : Nat) v, vs[i]? = some v → vs.getD i .non = v := fun i v h => by rw [List.getD_eq_getElem?_getD, h]; rfl
  have r0 : RS ⟨K, cf, none⟩ Z F (fun i => vs.getD i .non) (initE mask os N.length) [] (L2.start N vs) H := by
    refine ⟨⟨ft, [], init_env hmo hon h2, ⟨rfl, rfl⟩, by rw [List.append_nil]; exact nd, fun a ha => hF a (by rw [List.append_nil] at ha; exact ha)⟩, sep, zin, fin, fun i s hi hp => ?_, fun i a h => by cases h⟩
    obtain ⟨v, hv⟩ := init_pin hmo hl i s hi hp
    unfold L2.start
    rw [List.getElem?_append_left (by rw [List.length_map]; exact lt_of_get hv), List.getElem?_map, hv]
    show some (some v) = some (some (vs.getD i .non))
    rw [hP i v hv]
  refine ⟨Z, F, _, _, [], r0, ?_⟩
  unfold denFn at k
  cases q : db (initE mask os N.length) with
  | nx e => rw [q] at k; exact fun σ' Z' F' H' s' r' => k .non Z' F' H' _ s' ((r'.outs (n := mask.length) hP).push (x := .non) (v := .non) rfl)
  | rt o e => rw [q] at k; exact fun v σ' Z' F' H' s' r' => k v Z' F' H' _ s' (r'.outs (n := mask.length) hP)
  | exc c pl e => rw [q] at k; exact fun σ' Z' F' H' C dd hc py s' r' => k Z' F' H' _ C dd hc py s' (r'.outs (n := mask.length) hP)
  | bk e => rw [q] at k; exact k.elim
  | ct e => rw [q] at k; exact k.elim
  | bad => rw [q] at k; exact k.elim
def dCallF (den : Den) (p : List Nat) (g : En → Rs (List Ag)) : En → Rs O := fun e => (g e).bind fun as e1 => match den ((ord p as).map (·.1)) with
  | .ok o ps => match wb e1 (ord p as) ps with
    | some e2 => .ok o e2
    | none => .bad
  | .exc c pl ps => match wb e1 (ord p as) ps with
    | some e2 => .exc c pl e2
    | none => .bad
  | .bad => .bad
section
variable {X : Cx} {cl : Cl} {Wo : WX} {pos : Pos}
variable {W : Wd} {Z F Z' F' : Addr → Prop} {P P' : Nat → V} {e : En} {T : Ts} {σ : L2.St} {H H' : Hp} {Q : VK}
theorem rdCallF {den : Den} {p : List Nat} {n : Nat} {g : En → Rs (List Ag)} (hp : p.Perm (List.range n)) (hn : LenIs n g) (h : rdE W Wo (dCallF den p g) σ H Q) :
    rdC W Wo g σ H fun vs H1 => vs.length = n ∧ spD W.un n den (ord p vs) H1 Q (fun c d H => Wo c d σ H) := by
  obtain ⟨Z, F, P, e, T, r0, k⟩ := h
  refine ⟨Z, F, P, e, T, r0, ?_⟩
  unfold dCallF at k
  cases qa : g e with
  | bad => rw [qa] at k; exact k
  | exc c ps e1 => rw [qa] at k; exact k
  | ok as e1 =>
    rw [qa] at k
    simp only [Rs.bind_ok] at k
    intro vs Z1 F1 H1 hl s1 r1 l1
    have han : as.length = n := hn e as e1 qa
    have hvn : vs.length = n := by rw [← hl, han]
    refine ⟨hvn, ?_⟩
    have r2 : RS W Z1 F1 P e1 (((ord p as).map (·.1)).zip (ord p vs) ++ T) σ H1 := by
      refine r1.perm (List.Perm.append_right _ ?_)
      rw [← ord_map, ← ord_zip (by rw [List.length_map, hl])]
      refine (ord_perm ?_).symm
      show p.Perm (List.range ((as.map (·.1)).zip vs).length)
      rw [List.length_zip, List.length_map, hl, Nat.min_self, hvn]
      exact hp
    have hlo : (ord p as).length = (ord p vs).length := ord_len hl
    have hon : (ord p vs).length = n := by
      have := (ord_perm (p := p) (l := vs) (by rw [hvn]; exact hp)).length_eq
      rw [this, hvn]
    obtain ⟨Fc, rc, back⟩ := r2.frame P
    refine ⟨Z1, Fc, P, (ord p as).map (·.1), rc, by rw [List.length_map, hlo], hon, ?_⟩
    cases qd : den ((ord p as).map (·.1)) with
    | bad => rw [qd] at k; exact k.elim
    | ok o ps =>
      rw [qd] at k
      simp only at k
      intro v Z2 F2 H2 P2 s2 r3
      cases qw : wb e1 (ord p as) ps with
      | none => rw [qw] at k; exact k.elim
      | some e2 =>
        rw [qw] at k
        obtain ⟨F3, s3, r4⟩ := back Z2 F2 H2 _ P2 s2 r3
        have r5 : RS W Z2 F3 P e1 (livs ps (ord p vs) ++ ((o, v) :: T)) σ H2 := r4.perm List.perm_middle.symm
        exact k v Z2 F3 H2 (s1.trans s3) (r5.wb hlo (lends_ord hl l1) qw)
    | exc c pl ps =>
      rw [qd] at k
      simp only at k
      intro Z2 F2 H2 P2 C dd hc py s2 r3
      cases qw : wb e1 (ord p as) ps with
      | none => rw [qw] at k; exact k.elim
      | some e2 =>
        rw [qw] at k
        obtain ⟨F3, s3, r4⟩ := back Z2 F2 H2 _ P2 s2 r3
        exact k Z2 F3 H2 C dd hc (Pay.wx (W := W.un) (W' := W) ⟨rfl, rfl⟩ py) (s1.trans s3) (r4.wb hlo (lends_ord hl l1) qw)
structure KB (K : PySem.W.Frag) (fd : FuncData) (ps ks : List Str) (n0 n1 : Nat) (p : List Nat) : Prop where
  to : ∀ (s : Shared) (us ws : List Value), K.In s.heap → us.length = n0 → ws.length = n1 → BindsTo s fd ⟨us, ks.zip ws⟩ (ps.zip (ord p (us ++ ws)))
  pm : p.Perm (List.range (n0 + n1))
theorem vals_ord {vs : List V} {us : List Value} (r : Vals vs us) (p : List Nat) : Vals (ord p vs) (ord p us) := by
  have hl := r.length
  unfold ord
  induction p with
  | nil => exact .nil
  | cons i p ih =>
    rw [List.filterMap_cons, List.filterMap_cons]
    rcases Nat.lt_or_ge i vs.length with q | q
    · have e1 : vs[i]? = some vs[i] := List.getElem?_eq_getElem q
      obtain ⟨u, e2, ru⟩ := r.get e1
      rw [e1, e2]
      exact .cons ru ih
    · rw [List.getElem?_eq_none q, List.getElem?_eq_none (by omega)]
      exact ih
theorem run_own {CX : CXT} {k : Nat} {f : Addr} {fd : FuncData} {ps : List Str} {sp : Sp} {E : XK} {pins : List (Addr × Obj)} {s : Shared} {us us' : List Value} {kw : List (Str × Value)} {vs : List V}
    (Fn : FnOk X.prog X.w X.K X.mg X.base CX k f fd ps sp) (hr : Room k X.A) (hb : BindsTo s fd ⟨us, kw⟩ (ps.zip us')) (r : Vals vs us') (hx : PassesAt CX X σ E) (I : Inv X pins σ H s) (h : sp vs H Q E) :
    wpAny (model X.prog X.w) X.A (call (.ref f) us kw) (EP X pins σ Q) X.xe s := by
  refine wpAny_call (codeAny_mono (Fn.run X.A X.stack s H ⟨us, kw⟩ us' vs Q E hr I.env0 hb r h) fun r s' hq => ?_)
  cases r with
  | error e => exact hx pins H s e s' I hq
  | ok fl =>
    cases fl with
    | ret u => exact I.after hq
    | next => exact False.elim hq
    | brk => exact False.elim hq
    | cont => exact False.elim hq
theorem pass_own (tk : Takes X Wo) (σ : L2.St) : PassesAt (L2.CX X.prog X.w) X σ (fun c d H => Wo c d σ H) := passAt tk σ
section
variable {k : Nat} {f : Addr} {fd : FuncData} {ps ks : List Str} {n n0 n1 : Nat} {p : List Nat} {den : Den} {x : Str} {np : Pos} {a : Expr} {es : List Expr} {kws : List Keyword} {g g' : En → Rs (List Ag)}
theorem he_fn (Fn : FnOk X.prog X.w X.K X.mg X.base (L2.CX X.prog X.w) k f fd ps (spD (Cx.wd X cl).un n0 den)) (hr : Room k X.A) (tk : Takes X Wo) (hg : Gl X x) (hm : X.mg x = some (.ref f)) (hk : PySem.W.keepIn X.K (.ref f) = true) (hb : KB X.K fd ps [] n0 0 p)
    (ha : HC X cl Wo (a :: es) n0 g) (hdb : (x == ("__debug__" : Str)) = false := by decide) (he : starEach (a :: es) X.env = (false, eval a X.env) :: starEach es X.env := by rfl) (hpl : (backTo pos (starEach es X.env)).any (·.1) = false := by rfl) :
    HE X cl Wo (.Call (.Name x np) (a :: es) [] pos) (dCallF den p g) := by
  refine ⟨fun pins s σ H Q I h => ?_⟩
  refine wpAny_Call_Name_kw (ld_glob I hg hm ?_ hdb)
  refine PySem.W.callWith_K (h₀ := X.base) I.ok.mod.kin hk (thn (ha.run.run pos pins s σ H _ I (rdCallF hb.pm ha.len h)) fun us s1 ⟨vs, H1, I1, r, hn, q⟩ => ⟨I1.kIn, ?_⟩) he hpl
  refine run_own Fn hr ?_ (vals_ord r p) (pass_own tk σ) I1 q
  have := hb.to s1 us [] I1.kIn (by rw [← r.length, hn]; rfl) rfl
  rw [List.append_nil] at this
  exact this
theorem he_fnK0 (Fn : FnOk X.prog X.w X.K X.mg X.base (L2.CX X.prog X.w) k f fd ps (spD (Cx.wd X cl).un n1 den)) (hr : Room k X.A) (tk : Takes X Wo) (hg : Gl X x) (hm : X.mg x = some (.ref f)) (hk : PySem.W.keepIn X.K (.ref f) = true) (hb : KB X.K fd ps ks 0 n1 p)
    (hkw : HCK X cl Wo kws n1 g') (hall : (backToKw pos (keywordEach kws X.env)).all (·.1.isSome) = true := by rfl) (hks : (backToKw pos (keywordEach kws X.env)).filterMap (·.1) = ks := by rfl)
    (hdb : (x == ("__debug__" : Str)) = false := by decide) (hpl : ((backTo pos (starEach [] X.env)).any (·.1) || (backToKw pos (keywordEach kws X.env)).any (·.1.isNone)) = false := by rfl) :
    HE X cl Wo (.Call (.Name x np) [] kws pos) (dCallF den p g') := by
  refine ⟨fun pins s σ H Q I h => ?_⟩
  refine wpAny_Call_Name_kw (ld_glob I hg hm ?_ hdb)
  have pm : p.Perm (List.range n1) := by have := hb.pm; rw [Nat.zero_add] at this; exact this
  refine PySem.W.callWith_KW0 (h₀ := X.base) I.ok.mod.kin hk hall (thn (hkw.run.run pos pins s σ H _ I (rdCallF pm hkw.len h)) fun ws s2 ⟨zs, H2, I2, rz, hn, q2⟩ => ⟨I2.kIn, ?_⟩) hpl
  rw [hks]
  refine run_own Fn hr (hb.to s2 [] ws I2.kIn rfl (by rw [← rz.length, hn])) (vals_ord (us := [] ++ ws) rz p) (pass_own tk σ) I2 q2
end
end
end MX
namespace MX
open PySem L2
section
variable {X : Cx} {cl : Cl} {Wo : WX} {pos : Pos}
variable {W : Wd} {Z F Z' F' : Addr → Prop} {P P' : Nat → V} {e : En} {T : Ts} {σ : L2.St} {H H' : Hp} {Q : VK}
theorem RS.write {C C' : Ts} {a : Addr} {o : HO} (r : RS W Z F P e (C ++ T) σ H) (hm : Mut (some o))
    (h1 : ∀ fC, ROs W H Z (C.map (·.1)) (C.map (·.2)) fC → a ∈ fC)
    (h2 : Kp H Z (upd H a o) Z → ∀ fC, ROs W H Z (C.map (·.1)) (C.map (·.2)) fC → fC.Nodup → ∃ f', ROs W (upd H a o) Z (C'.map (·.1)) (C'.map (·.2)) f' ∧ f'.Nodup ∧ ∀ b ∈ f', b ∈ fC) :
    Stp Z F H Z F (upd H a o) ∧ RS W Z F P e (C' ++ T) σ (upd H a o) := by
  obtain ⟨⟨fe, ft, hE, hT, nd, hF⟩, sep, zin, fin, pin, px⟩ := r
  rw [List.map_append, List.map_append] at hT
  obtain ⟨vs', us, fa, fT, ew, ef, a1, a2⟩ := hT.split
  have hl2 : vs'.length = (C.map (·.2)).length := by rw [← a1.len, List.length_map, List.length_map]
  have e1 := List.append_inj ew hl2.symm
  obtain ⟨rfl, rfl⟩ : vs' = C.map (·.2) ∧ us = T.map (·.2) := ⟨e1.1.symm, e1.2.symm⟩
  subst ef
  have ha := h1 fa a1
  have nd1 := List.nodup_append.mp nd
  have nd2 := List.nodup_append.mp nd1.2.1
  have fa_F : ∀ a ∈ fa, F a := fun a ha => hF a (List.mem_append_right _ (List.mem_append_left _ ha))
  have aF := fa_F a ha
  have kp : Kp H Z (upd H a o) Z := ⟨fun _ z => z, fun b u z hb => by rw [upd_ne (fun q => sep a aF (by rw [← q]; exact z))]; exact hb, fun b xs hb => by rw [upd_ne (fun q => by rw [q] at hb; exact notMut_tup hb (fin a aF))]; exact hb, fun b ob u hb => by rw [upd_ne (fun q => by rw [q] at hb; exact notMut_frz hb (fin a aF))]; exact hb⟩
  obtain ⟨f', b1, b2, b3⟩ := h2 kp fa a1 nd2.1
  have ne1 : ∀ b ∈ fe, b ≠ a := fun b hb q => nd1.2.2 b hb a (List.mem_append_left _ ha) q
  have ne2 : ∀ b ∈ fT, b ≠ a := fun b hb q => nd2.2.2 a ha b hb q.symm
  refine ⟨⟨fun _ z => z, fun b u hb nf => by rw [upd_ne (fun q => nf (by rw [q]; exact aF))]; exact hb, dom_upd, fun _ f => .inl f, fun _ z => .inl z⟩, ⟨⟨fe, f' ++ fT, hE.keep kp _ _ _ fun b hb u hu => by rw [upd_ne (ne1 b hb)]; exact hu, ?_, ?_, fun b hb => ?_⟩, sep, fun b z => dom_upd b (zin b z), fun b f => ?_, pin, px⟩⟩
  · rw [List.map_append, List.map_append]
    exact ROs.append b1 (a2.keep kp _ _ _ fun b hb u hu => by rw [upd_ne (ne2 b hb)]; exact hu)
  · rw [List.nodup_append]
    refine ⟨nd1.1, ?_, fun b hb c hc q => ?_⟩
    · rw [List.nodup_append]
      exact ⟨b2, nd2.2.1, fun b hb c hc q => nd2.2.2 b (b3 b hb) c hc q⟩
    · rcases List.mem_append.mp hc with z | z
      · exact nd1.2.2 b hb c (List.mem_append_left _ (b3 c z)) q
      · exact nd1.2.2 b hb c (List.mem_append_right _ z) q
  · rcases List.mem_append.mp hb with z | z
    · exact hF b (List.mem_append_left _ z)
    · rcases List.mem_append.mp z with z | z
      · exact fa_F b (b3 b z)
      · exact hF b (List.mem_append_right _ (List.mem_append_right _ z))
  · by_cases q : b = a
    · rw [q, upd_same]; exact hm
    · rw [upd_ne q]; exact fin b f
def MutOk (W : Wd) (f : List O → List O → Option (List O × O)) (r : V → List V → Hp → VK → Prop) : Prop :=
  ∀ Z F P e T σ H c os c' z a vs Q, f c os = some (c', z) → os.length = vs.length → RS W Z F P e ((.lst c, .ref a) :: (os.zip vs ++ T)) σ H →
    (∀ w Z' F' H', Stp Z F H Z' F' H' → RS W Z' F' P e ((z, w) :: (.lst c', .ref a) :: T) σ H' → Q w H') → r (.ref a) vs H Q
def isLst : Option O → Bool
  | some (.lst _) => true
  | _ => false
def dMut (i : Nat) (f : List O → List O → Option (List O × O)) (d : En → Rs (List O)) : En → Rs O := fun e => match isLst (slot e i) with
  | true => (d e).bind fun os e1 => match slot e1 i with
    | some (.lst c) => match f c os with
      | some (c', z) => .ok z (putS e1 i (.lst c'))
      | none => .bad
    | _ => .bad
  | false => .bad
theorem isLst_some {o : Option O} (h : isLst o = true) : ∃ c, o = some (.lst c) := by
  unfold isLst at h
  split at h
  · exact ⟨_, rfl⟩
  · cases h
theorem rdMut {i : Nat} {f} {r : V → List V → Hp → VK → Prop} {d : En → Rs (List O)} (hf : MutOk W f r) (h : rdE W Wo (dMut i f d) σ H Q) :
    tVar i σ H fun x H1 => tyV W.K "list" x H1 ∧ rdA W Wo d σ H1 fun xs H2 => r x xs H2 Q := by
  obtain ⟨Z, F, P, e, T, r0, k⟩ := h
  unfold dMut at k
  cases q0 : isLst (slot e i) with
  | false => rw [q0] at k; exact k.elim
  | true =>
    obtain ⟨c0, q1⟩ := isLst_some q0
    rw [q0] at k
    simp only at k
    obtain ⟨v, f0, hv, ⟨a, vs0, f1, ev, hh, _, _⟩, _⟩ := slot_get r0 q1
    subst ev
    refine ⟨.ref a, hv, .inl ⟨rfl, vs0, .inl (.inl hh)⟩, Z, F, P, e, T, r0, ?_⟩
    cases qd : d e with
    | bad => rw [qd] at k; exact k
    | exc c ps e1 => rw [qd] at k; exact k
    | ok os e1 =>
      rw [qd] at k
      simp only [Rs.bind_ok] at k
      intro vs Z1 F1 H1 hl s1 r1
      cases q2 : slot e1 i with
      | none => rw [q2] at k; exact k.elim
      | some o =>
        rw [q2] at k
        cases o with
        | lst c =>
          simp only at k
          cases q3 : f c os with
          | none => rw [q3] at k; exact k.elim
          | some cz =>
            obtain ⟨c', z⟩ := cz
            rw [q3] at k
            simp only at k
            obtain ⟨s, hs, hc⟩ := slot_some q2
            obtain ⟨v', hv', r2⟩ := r1.lend hs hc
            rw [hv] at hv'
            cases hv'
            refine hf Z1 F1 P _ T σ H1 c os c' z a vs Q q3 hl r2 fun w Z2 F2 H2 s2 r3 => ?_
            have r4 : RS W Z2 F2 P (e1.set i s.lent) ((.lst c', .ref a) :: (z, w) :: T) σ H2 := r3.perm (List.Perm.swap _ _ _)
            have r5 := RS.back r4 (i := i) (s := s.lent) (get_set_self hs) (by cases s <;> rfl) hv
            rw [set_set, lent_put hc] at r5
            have e5 : putS e1 i (.lst c') = e1.set i (s.put (.lst c')) := by unfold putS; rw [modS_eq hs]
            rw [e5] at k
            exact k w Z2 F2 H2 (s1.trans s2) r5
        | _ => exact k.elim
theorem he_mut {i : Nat} {x : Str} {p apos : Pos} {name : Str} {id : String} {ex : Expr} {es : List Expr} {f} {r : V → List V → Hp → VK → Prop} {d : En → Rs (List O)} (hf : MutOk (Cx.wd X cl) f r)
    (h : PE X (.Call (.Attribute (.Name x p) name apos) (ex :: es) [] pos) (tBM X.K "list" r (tVar i) (rdA (Cx.wd X cl) Wo d))) : HE X cl Wo (.Call (.Attribute (.Name x p) name apos) (ex :: es) [] pos) (dMut i f d) :=
  PE.imp h fun σ H Q h => rdMut hf h
theorem ros_one {o : O} {v : V} {f : List Addr} (h : ROs W H Z [o] [v] f) : RO W H Z o v f := by
  obtain ⟨v', r, f1, f2, ev, ef, h1, er, e2⟩ := h
  cases ev
  subst ef e2
  rw [List.append_nil]
  exact h1
def fAppend : List O → List O → Option (List O × O)
  | c, [o] => if c.length < sizeLine then some (c ++ [o], .d .non) else none
  | _, _ => none
theorem mAppend : MutOk W fAppend rAppend := by
  intro Z F P e T σ H c os c' z a vs Q hf hl r k
  unfold fAppend at hf
  split at hf
  · rename_i o
    split at hf
    · rename_i hz; cases hf
      match vs, hl with
      | [v], _ =>
        have r' : RS W Z F P e (([(.lst c, .ref a), (o, v)] : Ts) ++ T) σ H := r
        obtain ⟨f, hro, _⟩ := r.top
        obtain ⟨a', us, f', ev, hh, _, hc⟩ := hro
        cases ev
        refine ⟨a, us, v, rfl, rfl, hh, by rw [← hc.len]; exact hz, ?_⟩
        have hw := RS.write (C' := [(.lst (c ++ [o]), .ref a)]) (o := .lst (us ++ [v])) r' trivial (fun fC hC => by
            obtain ⟨v', rr, f1, f2, ev, ef, ⟨a', us', f3, ev', _, e3, _⟩, _⟩ := hC
            cases ev
            cases ev'
            rw [ef, e3]
            exact List.mem_append_left _ List.mem_cons_self) (fun kp fC hC nd => by
            obtain ⟨v', rr, f1, f2, ev, ef, ⟨a', us', f3, ev', hh', e3, hcs⟩, ho⟩ := hC
            cases ev
            cases ev'
            rw [hh] at hh'
            cases hh'
            have ho' := ros_one ho
            subst ef e3
            have nd1 := List.nodup_append.mp nd
            have nd3 := List.nodup_cons.mp nd1.1
            have na : ∀ b ∈ f3, b ≠ a := fun b hb q => nd3.1 (by rw [← q]; exact hb)
            have nb : ∀ b ∈ f2, b ≠ a := fun b hb q => nd1.2.2 a List.mem_cons_self b hb q.symm
            refine ⟨a :: (f3 ++ f2), ⟨_, _, a :: (f3 ++ f2), [], rfl, (List.append_nil _).symm, ⟨a, us ++ [v], f3 ++ f2, rfl, upd_same, rfl, ROs.append (hcs.keep kp _ _ _ fun b hb u hu => by rw [upd_ne (na b hb)]; exact hu) (ROs.one (ho'.keep kp _ _ _ fun b hb u hu => by rw [upd_ne (nb b hb)]; exact hu))⟩, rfl, rfl⟩, nd, fun b hb => hb⟩)
        exact k .non Z F _ hw.1 (hw.2.push (x := .non) (v := .non) rfl)
    · cases hf
  · cases hf
def rangeD (lo : Int) (n : Nat) : List D := (List.range n).map fun (i : Nat) => .int (lo + (i : Int))
theorem rangeD_len {lo : Int} {n : Nat} : (rangeD lo n).length = n := by unfold rangeD; rw [List.length_map, List.length_range]
theorem rangeD_get {lo : Int} {n i : Nat} {d : D} (h : (rangeD lo n)[i]? = some d) : i < n ∧ d = .int (lo + (i : Int)) := by
  have hi : i < n := by
    have := lt_of_get h
    rw [rangeD_len] at this
    exact this
  refine ⟨hi, ?_⟩
  unfold rangeD at h
  rw [List.getElem?_map, List.getElem?_range hi] at h
  exact (Option.some.inj h).symm
theorem itr_ok {lo : Int} {n : Nat} : ItOk W (Itr lo n) [] (rangeD lo n) := by
  intro i Z F P e T σ H r
  refine ⟨fun d hd => ?_, fun hle => by rw [rangeD_len] at hle; exact Nat.le_of_eq hle.symm⟩
  obtain ⟨hi, rfl⟩ := rangeD_get hd
  exact ⟨hi, fun x H' ⟨eH, hx⟩ => by subst eH hx; exact ⟨Z, F, .refl, r.push rfl⟩⟩
def iOps (d : En → Rs (List Ar)) (f : List O → Option (List D)) : En → Rs (List D) := fun e => (d e).bind fun xs e1 => match gets e1 xs with
  | some os => match f os with
    | some ds => .ok ds e1
    | none => .bad
  | none => .bad
theorem rdOps {d : En → Rs (List Ar)} {f : List O → Option (List D)} {R : It → Hp → Prop} {K : List V → Hp → Prop} (h : rdI W Wo (iOps d f) σ H R)
    (hk : ∀ Z F P e T H1 os vs ds, f os = some ds → Sees W H1 Z os vs → RS W Z F P e T σ H1 → (∀ J, ItOk W J [] ds → R J H1) → K vs H1) : rdVs W Wo d σ H K := by
  obtain ⟨Z, F, P, e, T, r0, k⟩ := h
  refine ⟨Z, F, P, e, T, r0, ?_⟩
  unfold iOps at k
  cases qa : d e with
  | bad => rw [qa] at k; exact k
  | exc c ps e1 => rw [qa] at k; exact k
  | ok xs e1 =>
    rw [qa] at k
    simp only [Rs.bind_ok] at k
    intro vs Z1 F1 H1 hl s1 r1 a1
    cases g : gets e1 xs with
    | none => rw [g] at k; exact k.elim
    | some os =>
      rw [g] at k
      simp only at k
      obtain ⟨ss, r2⟩ := sees_tmps hl r1 a1 g
      cases qf : f os with
      | none => rw [qf] at k; exact k.elim
      | some ds =>
        rw [qf] at k
        exact hk Z1 F1 P e1 T H1 os vs ds qf ss r2 fun J hJ => k Z1 F1 H1 J [] s1 r2 hJ
def inB (i : Int) : Bool := decide (-(2 ^ 62) ≤ i) && decide (i < 2 ^ 62)
theorem inB_of {i : Int} (h : inB i = true) : -(2 ^ 62) ≤ i ∧ i < 2 ^ 62 := by
  unfold inB at h
  rw [Bool.and_eq_true] at h
  exact ⟨of_decide_eq_true h.1, of_decide_eq_true h.2⟩
def gR1 : List O → Option (List D)
  | [.d (.int j)] => if inB j = true then some (rangeD 0 j.toNat) else none
  | _ => none
theorem hi_range1 {tg a : Expr} {d} {p : Pos} (hg : Gl X "range") (hm : X.mg "range" = none) (ha : HVs X cl Wo [a] d) (hs : starEach [a] X.env = [(false, eval a X.env)] := by rfl) : HI X cl Wo tg (.Call (.Name "range" p) [a] [] pos) (iOps d gR1) :=
  PI.imp (pi_range1 hg hm ha hs) fun σ H R h => rdOps h fun Z F P e T H1 os vs ds hf ss r k => by
    unfold gR1 at hf
    split at hf
    · split at hf
      · rename_i j hb; cases hf
        obtain ⟨v, rfl, s⟩ := ss.one
        obtain ⟨h1, h2⟩ := inB_of hb
        exact ⟨j, by rw [s.int], h1, h2, k _ itr_ok⟩
      · cases hf
    · cases hf
end
end MX
namespace MX
open PySem L2
open PyProof.Rows (envOfC)
def wipeE : En → List Nat → En
  | e, [] => e
  | e, v :: vs => (wipeE e vs).set v .no
section
variable {X : Cx} {cl : Cl} {Wo : WX} {pos : Pos}
variable {W : Wd} {Z F Z' F' : Addr → Prop} {P P' : Nat → V} {e : En} {T : Ts} {σ : L2.St} {H H' : Hp} {Q : VK}
theorem wipeE_len {e : En} : ∀ vs : List Nat, (wipeE e vs).length = e.length
  | [] => rfl
  | v :: vs => by rw [show wipeE e (v :: vs) = (wipeE e vs).set v .no from rfl, List.length_set, wipeE_len vs]
theorem REnv.forget : ∀ {e : List (Option O)} {σ : L2.St} {f : List Addr} {i : Nat} (x : Option V), REnv W H Z e σ f → ∃ f1 f2 f3, f = f1 ++ f2 ++ f3 ∧ REnv W H Z (e.set i none) (σ.set i x) (f1 ++ f3)
  | [], σ, f, i, x, h => by
    obtain ⟨es, ef⟩ := h
    subst es ef
    exact ⟨[], [], [], rfl, rfl, rfl⟩
  | none :: e, σ, f, 0, x, ⟨y, r, es, h⟩ => ⟨[], [], f, rfl, by rw [es]; exact ⟨x, r, rfl, h⟩⟩
  | some p :: e, σ, f, 0, x, ⟨v, r, f1, f2, es, ef, h1, h2⟩ => ⟨[], f1, f2, by rw [ef]; rfl, by rw [es]; exact ⟨x, r, rfl, h2⟩⟩
  | none :: e, σ, f, i + 1, x, ⟨y, r, es, h⟩ => by
    obtain ⟨f1, f2, f3, ef, hr⟩ := REnv.forget (i := i) x h
    exact ⟨f1, f2, f3, ef, by rw [es]; exact ⟨y, _, rfl, hr⟩⟩
  | some p :: e, σ, f, i + 1, x, ⟨v, r, f1, f2, es, ef, h1, h2⟩ => by
    obtain ⟨g1, g2, g3, eg, hr⟩ := REnv.forget (i := i) x h2
    refine ⟨f1 ++ g1, g2, g3, by rw [ef, eg]; simp, ?_⟩
    rw [es]
    exact ⟨v, r.set i x, f1, g1 ++ g3, rfl, by simp, h1, hr⟩
theorem RS.forget (r : RS W Z F P e T σ H) (i : Nat) (x : Option V) : RS W Z F P (e.set i .no) T (σ.set i x) H := by
  obtain ⟨⟨fe, ft, h1, h2, nd, hF⟩, sep, zin, fin, pin, px⟩ := r
  obtain ⟨f1, f2, f3, ef, hr⟩ := h1.forget (i := i) x
  have sub : (f1 ++ f3 ++ ft).Sublist (fe ++ ft) := by
    rw [ef]
    refine List.Sublist.append_right ?_ _
    rw [List.append_assoc]
    exact List.Sublist.append_left (List.sublist_append_right _ _) _
  refine ⟨⟨f1 ++ f3, ft, ?_, h2, nd.sublist sub, fun a ha => hF a (sub.subset ha)⟩, sep, zin, fin, fun j t hj hp => ?_, px⟩
  · rw [map_set_cont]; exact hr
  · by_cases ij : i = j
    · subst ij
      rw [List.getElem?_set] at hj
      simp only [if_true] at hj
      split at hj
      · cases hj; cases hp
      · cases hj
    · rw [List.getElem?_set_ne ij] at hj
      rw [List.getElem?_set_ne ij]
      exact pin j t hj hp
theorem RS.wipe (r : RS W Z F P e T σ H) : ∀ vs : List Nat, RS W Z F P (wipeE e vs) T (wipe σ vs) H
  | [] => r
  | v :: vs => (RS.wipe r vs).forget v none
theorem wipe_kps {vs : List Nat} {σ σ' : L2.St} (k : Kps vs σ σ') : L2.wipe σ' vs = L2.wipe σ vs := by
  have gen : ∀ (us : List Nat), (∀ j, j ∉ vs → (L2.wipe σ' us)[j]? = (L2.wipe σ us)[j]?) ∧ (∀ j, j ∈ us → (L2.wipe σ' us)[j]? = (L2.wipe σ us)[j]?) := by
    intro us
    induction us with
    | nil => exact ⟨fun j h => k.2 j h, fun j h => nomatch h⟩
    | cons u us ih =>
      have e1 : L2.wipe σ' (u :: us) = (L2.wipe σ' us).set u none := rfl
      have e2 : L2.wipe σ (u :: us) = (L2.wipe σ us).set u none := rfl
      have hl : (L2.wipe σ' us).length = (L2.wipe σ us).length := by rw [wipe_length, wipe_length, k.1]
      refine ⟨fun j h => ?_, fun j h => ?_⟩
      · rw [e1, e2, List.getElem?_set, List.getElem?_set, hl, ih.1 j h]
      · rw [e1, e2, List.getElem?_set, List.getElem?_set, hl]
        by_cases q : u = j
        · simp [q]
        · simp only [q, if_false]
          rcases List.mem_cons.mp h with z | z
          · exact absurd z.symm q
          · exact ih.2 j z
  refine List.ext_getElem? fun j => ?_
  by_cases h : j ∈ vs
  · exact (gen vs).2 j h
  · exact (gen vs).1 j h
theorem RS.unwipe {vs : List Nat} {e0 : En} (r : RS W Z F P (wipeE e0 vs) T (L2.wipe σ vs) H) (hl : σ.length = e0.length) : RS W Z F P (wipeE e0 vs) T σ H := by
  have gen : ∀ (us : List Nat) (e : En) (τ : L2.St), (∀ u ∈ us, e[u]? = none ∨ e[u]? = some .no) → RS W Z F P e T (L2.wipe τ us) H → RS W Z F P e T τ H := by
    intro us
    induction us with
    | nil => exact fun e τ _ r => r
    | cons u us ih =>
      intro e τ hu r
      refine ih e τ (fun w hw => hu w (List.mem_cons_of_mem _ hw)) ?_
      have e1 : L2.wipe τ (u :: us) = (L2.wipe τ us).set u none := rfl
      rw [e1] at r
      have r2 := r.forget u ((L2.wipe τ us)[u]?.getD none)
      have e2 : ((L2.wipe τ us).set u none).set u ((L2.wipe τ us)[u]?.getD none) = L2.wipe τ us := by
        rw [List.set_set]
        refine List.ext_getElem? fun j => ?_
        rw [List.getElem?_set]
        by_cases q : u = j
        · subst q
          simp only [if_true]
          split
          · rename_i h
            rw [List.getElem?_eq_getElem h]; rfl
          · rename_i h
            rw [List.getElem?_eq_none (by omega)]
        · simp [q]
      rw [e2] at r2
      have e3 : e.set u .no = e := by
        refine List.ext_getElem? fun j => ?_
        rw [List.getElem?_set]
        by_cases q : u = j
        · subst q
          simp only [if_true]
          rcases hu u List.mem_cons_self with z | z
          · rw [z]
            split
            · rename_i h
              rw [List.getElem?_eq_getElem h] at z
              cases z
            · rfl
          · rw [z]; simp [lt_of_get z]
        · simp [q]
      rw [e3] at r2
      exact r2
  refine gen vs _ σ (fun u hu => ?_) r
  have : ∀ (us : List Nat), u ∈ us → (wipeE e0 us)[u]? = none ∨ (wipeE e0 us)[u]? = some .no := by
    intro us
    induction us with
    | nil => exact fun h => nomatch h
    | cons w us ih =>
      intro h
      rw [show wipeE e0 (w :: us) = (wipeE e0 us).set w .no from rfl, List.getElem?_set]
      by_cases q : w = u
      · simp only [q, if_true]
        split
        · exact .inr rfl
        · exact .inl rfl
      · simp only [q, if_false]
        rcases List.mem_cons.mp h with z | z
        · exact absurd z.symm q
        · exact ih z
  exact this vs hu
theorem wipeE_idem {vs : List Nat} {e : En} : wipeE (wipeE e vs) vs = wipeE e vs := by
  have gen : ∀ us : List Nat, (∀ u ∈ us, u ∈ vs) → wipeE (wipeE e vs) us = wipeE e vs := by
    intro us
    induction us with
    | nil => exact fun _ => rfl
    | cons u us ih =>
      intro hu
      rw [show wipeE (wipeE e vs) (u :: us) = (wipeE (wipeE e vs) us).set u .no from rfl, ih fun w hw => hu w (List.mem_cons_of_mem _ hw)]
      have hm : u ∈ vs := hu u List.mem_cons_self
      have key : ∀ (ws : List Nat), u ∈ ws → (wipeE e ws).set u .no = wipeE e ws := by
        intro ws
        induction ws with
        | nil => exact fun h => nomatch h
        | cons w ws ih2 =>
          intro h
          rw [show wipeE e (w :: ws) = (wipeE e ws).set w .no from rfl]
          by_cases q : w = u
          · rw [q, List.set_set]
          · rcases List.mem_cons.mp h with z | z
            · exact absurd z.symm q
            · rw [List.set_comm _ _ q, ih2 z]
      exact key vs hm
  exact gen vs fun u h => h
abbrev Wf : WX := fun _ _ _ _ => False
def HTs (X : Cx) (cl : Cl) (Wo : WX) (ifs : List Expr) (d : En → Rs Bool) : Prop := PTs X ifs (rdT (Cx.wd X cl) Wo d)
def dYes : En → Rs Bool := fun e => .ok true e
theorem PTs.imp {ifs : List Expr} {t t' : TT} (h : PTs X ifs t) (k : ∀ σ H Q, t' σ H Q → t σ H Q) : PTs X ifs t' := ⟨fun pins s σ H Q I q => h.run pins s σ H Q I (k σ H Q q)⟩
theorem hts_nil : HTs X cl Wo [] dYes := PTs.imp pts_nil fun σ H Q h => rdT_ok h
theorem hts_one {c : Expr} {d} (h : HT X cl Wo c d) : HTs X cl Wo [c] d := pts_one h
def lcL (vs : List Nat) (t : Tg) (c : En → Rs Bool) (el : En → Rs O) : List D → List O → En → Rs O
  | [], acc, e => .ok (.lst acc) e
  | d :: ds, acc, e => match t (.d d) e with
    | none => .bad
    | some e1 => match c e1 with
      | .ok true e2 => match el e2 with
        | .ok o e3 => if acc.length < sizeLine then lcL vs t c el ds (acc ++ [o]) (wipeE e3 vs) else .bad
        | _ => .bad
      | .ok false e2 => lcL vs t c el ds acc (wipeE e2 vs)
      | _ => .bad
def dLc (it : En → Rs (List D)) (vs : List Nat) (t : Tg) (c : En → Rs Bool) (el : En → Rs O) : En → Rs O := fun e => (it e).bind fun ds e1 => lcL vs t c el ds [] (wipeE e1 vs)
theorem RS.app {c : List O} {a : Addr} {o : O} {v : V} (r : RS W Z F P e ((o, v) :: (.lst c, .ref a) :: T) σ H) : ∃ us, H a = some (.lst us) ∧ us.length = c.length ∧ Stp Z F H Z F (upd H a (.lst (us ++ [v]))) ∧ RS W Z F P e ((.lst (c ++ [o]), .ref a) :: T) σ (upd H a (.lst (us ++ [v]))) := by
  have r' : RS W Z F P e (([(.lst c, .ref a), (o, v)] : Ts) ++ T) σ H := r.perm (List.Perm.swap _ _ _)
  obtain ⟨f, ⟨a', us, f', ev, hh, _, hc⟩, _⟩ := r.pop.top
  cases ev
  refine ⟨us, hh, hc.len.symm, ?_⟩
  refine RS.write (C' := [(.lst (c ++ [o]), .ref a)]) (o := .lst (us ++ [v])) r' trivial (fun fC hC => ?_) (fun kp fC hC nd => ?_)
  · obtain ⟨v', rr, f1, f2, ev, ef, ⟨a', us', f3, ev', _, e3, _⟩, _⟩ := hC
    cases ev
    cases ev'
    rw [ef, e3]
    exact List.mem_append_left _ List.mem_cons_self
  · obtain ⟨v', rr, f1, f2, ev, ef, ⟨a', us', f3, ev', hh', e3, hcs⟩, ho⟩ := hC
    cases ev
    cases ev'
    rw [hh] at hh'
    cases hh'
    have ho' := ros_one ho
    subst ef e3
    have nd1 := List.nodup_append.mp nd
    have nd3 := List.nodup_cons.mp nd1.1
    have na : ∀ b ∈ f3, b ≠ a := fun b hb q => nd3.1 (by rw [← q]; exact hb)
    have nb : ∀ b ∈ f2, b ≠ a := fun b hb q => nd1.2.2 a List.mem_cons_self b hb q.symm
    refine ⟨a :: (f3 ++ f2), ⟨_, _, a :: (f3 ++ f2), [], rfl, (List.append_nil _).symm, ⟨a, us ++ [v], f3 ++ f2, rfl, upd_same, rfl, ROs.append (hcs.keep kp _ _ _ fun b hb u hu => by rw [upd_ne (na b hb)]; exact hu) (ROs.one (ho'.keep kp _ _ _ fun b hb u hu => by rw [upd_ne (nb b hb)]; exact hu))⟩, rfl, rfl⟩, nd, fun b hb => hb⟩
theorem RS.elen (r : RS W Z F P e T σ H) : σ.length = e.length := by
  obtain ⟨⟨fe, ft, h1, _⟩, _⟩ := r
  rw [← h1.len, List.length_map]
theorem rdLc {it : En → Rs (List D)} {vs : List Nat} {t : Tg} {c : En → Rs Bool} {el : En → Rs O} (h : rdE W Wo (dLc it vs t c el) σ H Q) :
    tLc (rdI W Wo it) (rdG W vs t) (rdT W Wf c) (rdE W Wf el) vs σ H Q := by
  obtain ⟨Z, F, P, e, T, r0, k⟩ := h
  refine ⟨Z, F, P, e, T, r0, ?_⟩
  unfold dLc at k
  cases qi : it e with
  | bad => rw [qi] at k; exact k
  | exc c ps e1 => rw [qi] at k; exact k
  | ok ds e1 =>
    rw [qi] at k
    simp only [Rs.bind_ok] at k
    intro Z1 F1 H1 J T2 s1 r1 hJ D hD
    have hlen : σ.length = e1.length := r1.elen
    have r2 : RS W Z1 (fun a => F1 a ∨ a = D) P e1 (T2 ++ ((.lst [], .ref D) :: T)) σ (upd H1 D (.lst [])) := by
      have := r1.newL (ds := []) (vs := []) rfl hD
      exact this.perm List.perm_middle.symm
    refine ⟨fun i m H => i + m = ds.length ∧ ∃ Z F e acc, e.length = σ.length ∧ wipeE e vs = e ∧ RS W Z F P e (T2 ++ ((.lst acc, .ref D) :: T)) (L2.wipe σ vs) H ∧ PostE W Wo Z F P T σ H Q (lcL vs t c el (ds.drop i) acc e), ⟨ds.length, Nat.zero_add _, Z1, _, wipeE e1 vs, [], by rw [wipeE_len, hlen], wipeE_idem, r2.wipe vs, ?_⟩, ?_⟩
    · have s2 : Stp Z F H Z1 (fun a => F1 a ∨ a = D) (upd H1 D (.lst [])) := s1.trans (Stp.allocF hD)
      cases q : lcL vs t c el ds [] (wipeE e1 vs) with
      | bad => rw [q] at k; exact k.elim
      | exc c ps e' => rw [List.drop_zero, q]; rw [q] at k; exact XOk.step s2 k
      | ok o e' => rw [List.drop_zero, q]; rw [q] at k; exact fun v Z' F' H' s3 r3 => k v Z' F' H' (s2.trans s3) r3
    · rintro i m H ⟨him, Z, F, e, acc, hel, hwe, r, k⟩
      obtain ⟨hgo, hstop⟩ := hJ i Z F P e ((.lst acc, .ref D) :: T) (L2.wipe σ vs) H r
      by_cases hi : i < ds.length
      · right
        have hd : ds[i]? = some ds[i] := List.getElem?_eq_getElem hi
        rw [List.drop_eq_getElem_cons hi] at k
        unfold lcL at k
        refine ⟨(hgo _ hd).1, fun H' => i + 1 + (m - 1) = ds.length ∧ ∃ Z F e acc, e.length = σ.length ∧ wipeE e vs = e ∧ RS W Z F P e (T2 ++ ((.lst acc, .ref D) :: T)) (L2.wipe σ vs) H' ∧ PostE W Wo Z F P T σ H' Q (lcL vs t c el (ds.drop (i + 1)) acc e), fun H' h => ⟨m - 1, by omega, h⟩, fun x H' hy => ?_⟩
        obtain ⟨Z2, F2, s2, r2⟩ := (hgo _ hd).2 x H' hy
        refine ⟨Z2, F2, P, e, T2 ++ ((.lst acc, .ref D) :: T), .d ds[i], r2, ?_⟩
        cases qt : t (.d ds[i]) e with
        | none => rw [qt] at k; exact k.elim
        | some e2 =>
          rw [qt] at k
          simp only at k ⊢
          intro σ3 Z3 F3 H3 k3 s3 r3
          have hw : L2.wipe σ3 vs = L2.wipe σ vs := (wipe_kps k3).trans (by
            have : ∀ us : List Nat, (∀ u ∈ us, u ∈ vs) → L2.wipe (L2.wipe σ vs) us = L2.wipe σ vs := by
              intro us
              induction us with
              | nil => exact fun _ => rfl
              | cons u us ih =>
                intro hu
                rw [show L2.wipe (L2.wipe σ vs) (u :: us) = (L2.wipe (L2.wipe σ vs) us).set u none from rfl, ih fun w hw => hu w (List.mem_cons_of_mem _ hw)]
                have key : ∀ (ws : List Nat), u ∈ ws → (L2.wipe σ ws).set u none = L2.wipe σ ws := by
                  intro ws
                  induction ws with
                  | nil => exact fun h => nomatch h
                  | cons w ws ih2 =>
                    intro h
                    rw [show L2.wipe σ (w :: ws) = (L2.wipe σ ws).set w none from rfl]
                    by_cases q : w = u
                    · rw [q, List.set_set]
                    · rcases List.mem_cons.mp h with z | z
                      · exact absurd z.symm q
                      · rw [List.set_comm _ _ q, ih2 z]
                exact key vs (hu u List.mem_cons_self)
            exact this vs fun u h => h)
          have hσ3 : σ3.length = σ.length := by rw [k3.1, wipe_length]
          refine ⟨hw, Z3, F3, P, e2, T2 ++ ((.lst acc, .ref D) :: T), r3, ?_⟩
          cases qc : c e2 with
          | bad => rw [qc] at k; exact k.elim
          | exc c ps e' => rw [qc] at k; exact k.elim
          | ok b e3 =>
            rw [qc] at k
            intro Z4 F4 H4 s4 r4
            cases b with
            | false =>
              refine iteF ?_
              simp only at k
              refine ⟨by omega, Z4, F4, wipeE e3 vs, acc, by rw [wipeE_len, ← r4.elen, hσ3], wipeE_idem, ?_, ?_⟩
              · rw [← hw]; exact r4.wipe vs
              · have s5 := (s2.trans s3).trans s4
                cases q : lcL vs t c el (ds.drop (i + 1)) acc (wipeE e3 vs) with
                | bad => rw [q] at k; exact k.elim
                | exc c ps e' => rw [q] at k; exact XOk.step s5 k
                | ok o e' => rw [q] at k; exact fun v Z' F' H' s3 r3 => k v Z' F' H' (s5.trans s3) r3
            | true =>
              refine iteT ⟨Z4, F4, P, e3, T2 ++ ((.lst acc, .ref D) :: T), r4, ?_⟩
              simp only at k
              cases qe : el e3 with
              | bad => rw [qe] at k; exact k.elim
              | exc c ps e' => rw [qe] at k; exact k.elim
              | ok o e4 =>
                rw [qe] at k
                simp only at k
                intro y Z5 F5 H5 s5 r5
                split at k
                · rename_i hz
                  have r6 : RS W Z5 F5 P e4 ((o, y) :: (.lst acc, .ref D) :: (T2 ++ T)) σ3 H5 := r5.perm (List.Perm.cons _ List.perm_middle)
                  obtain ⟨us, hh, hlu, s6, r7⟩ := r6.app
                  refine ⟨us, hh, by rw [hlu]; exact hz, by omega, Z5, F5, wipeE e4 vs, acc ++ [o], by rw [wipeE_len, ← r5.elen, hσ3], wipeE_idem, ?_, ?_⟩
                  · rw [← hw]
                    exact (r7.perm (T' := T2 ++ ((.lst (acc ++ [o]), .ref D) :: T)) List.perm_middle.symm).wipe vs
                  · have s7 := (((s2.trans s3).trans s4).trans s5).trans s6
                    cases q : lcL vs t c el (ds.drop (i + 1)) (acc ++ [o]) (wipeE e4 vs) with
                    | bad => rw [q] at k; exact k.elim
                    | exc c ps e' => rw [q] at k; exact XOk.step s7 k
                    | ok o e' => rw [q] at k; exact fun v Z' F' H' s3 r3 => k v Z' F' H' (s7.trans s3) r3
                · exact k.elim
      · left
        have hge : ds.length ≤ i := Nat.le_of_not_lt hi
        rw [List.drop_of_length_le hge] at k
        refine ⟨hstop (by omega), k (.ref D) Z F H .refl ?_⟩
        have r1 := r.appPop
        rw [← hwe] at r1 ⊢
        exact r1.unwipe hel.symm
theorem he_lc {elt tg iter : Expr} {ifs : List Expr} {scope : Scope} {own : List (Str × Nat)} {di} {t : Tg} {dc} {de}
    (h : PE X (.ListComp elt [⟨tg, iter, ifs, 0⟩] scope pos) (tLc (rdI (Cx.wd X cl) Wo di) (rdG (Cx.wd X cl) (own.map (·.2)) t) (rdT (Cx.wd X cl) Wf dc) (rdE (Cx.wd X cl) Wf de) (own.map (·.2)))) :
    HE X cl Wo (.ListComp elt [⟨tg, iter, ifs, 0⟩] scope pos) (dLc di (own.map (·.2)) t dc de) := PE.imp h fun σ H Q h => rdLc h
theorem hs_setLc {i : Nat} {st : Stmt} {own : List (Str × Nat)} {di} {t : Tg} {dc} {de}
    (h : PS X st (tAsg (tLc (rdI (Cx.wd X cl) Wo di) (rdG (Cx.wd X cl) (own.map (·.2)) t) (rdT (Cx.wd X cl) Wf dc) (rdE (Cx.wd X cl) Wf de) (own.map (·.2))) (L2.gName i))) :
    HS X cl Wo st (sAsg (dLc di (own.map (·.2)) t dc de) (tName i)) :=
  PS.imp h fun D σ H h => rdLc (rdE_out h fun Z F P e T o v H1 r k => by
    split at k
    · rename_i e2 q; exact k _ Z F H1 .refl (r.store q)
    · exact k.elim)
def dSave (i : Nat) (d : En → Rs O) : En → Rs O := fun e => match e[i]? with
  | some s => match s.cont with
    | some o => (d (e.set i s.lent)).bind fun r e1 => match e1[i]? with
      | some s1 => match s1.cont with
        | none => .ok r (e1.set i (s1.put o))
        | some _ => .bad
      | none => .bad
    | none => d e
  | none => d e
theorem rd_save {i : Nat} {d : En → Rs O} (h : rdE W Wo (dSave i d) σ H Q) : rdE W Wo d σ H Q := by
  obtain ⟨Z, F, P, e, T, r0, k⟩ := h
  unfold dSave at k
  cases q : e[i]? with
  | none => rw [q] at k; exact ⟨Z, F, P, e, T, r0, k⟩
  | some s =>
    rw [q] at k
    simp only at k
    cases q2 : s.cont with
    | none => rw [q2] at k; exact ⟨Z, F, P, e, T, r0, k⟩
    | some o =>
      rw [q2] at k
      simp only at k
      obtain ⟨v, hv, r1⟩ := r0.lend q q2
      refine ⟨Z, F, P, e.set i s.lent, (o, v) :: T, r1, ?_⟩
      cases qd : d (e.set i s.lent) with
      | bad => rw [qd] at k; exact k
      | exc c ps e1 => rw [qd] at k; exact XOk.popped k
      | ok r e1 =>
        rw [qd] at k
        simp only [Rs.bind_ok] at k
        intro w Z1 F1 H1 s1 r2
        cases q3 : e1[i]? with
        | none => rw [q3] at k; exact k.elim
        | some s1' =>
          rw [q3] at k
          simp only at k
          cases q4 : s1'.cont with
          | some _ => rw [q4] at k; exact k.elim
          | none =>
            rw [q4] at k
            exact k w Z1 F1 H1 s1 (RS.back (r2.perm (List.Perm.swap _ _ _)) q3 q4 hv)
end
end MX
namespace MX
open PySem L2
section
variable {X : Cx} {cl : Cl} {Wo : WX} {pos : Pos}
variable {W : Wd} {Z F Z' F' : Addr → Prop} {P P' : Nat → V} {e : En} {T : Ts} {σ : L2.St} {H H' : Hp} {Q : VK}
def keyD : D → Option Key
  | .int i => some (.inl i)
  | .str s => some (.inr s)
  | _ => none
def keyO : O → Option Key
  | .d x => keyD x
  | _ => none
theorem See.key {o : O} {v : V} {k : Key} (h : See W H Z o v) (q : keyO o = some k) : v = kV k := by
  cases o with
  | d x =>
    cases x with
    | int i => cases q; exact h.int
    | str s => cases q; exact h.str
    | _ => cases q
  | _ => cases q
def getK {α : Type} : List Key → List α → Key → Option α
  | k :: ks, x :: xs, q => if k = q then some x else getK ks xs q
  | _, _, _ => none
theorem valV_cons {p : Key × V} {kvs : List (Key × V)} {k : Key} : valV (p :: kvs) k = if p.1 = k then some p.2 else valV kvs k := by
  unfold valV
  rw [List.find?_cons]
  by_cases h : p.1 = k
  · simp [h]
  · simp [h]
theorem getK_ros : ∀ {kvs : List (Key × V)} {os : List O} {f : List Addr} {k : Key}, ROs W H Z os (kvs.map (·.2)) f → match getK (kvs.map (·.1)) os k with
    | some o => ∃ v, valV kvs k = some v ∧ See W H Z o v
    | none => valV kvs k = none
  | [], [], f, k, _ => rfl
  | [], o :: os, f, k, ⟨v, r, f1, f2, e, _⟩ => by cases e
  | p :: kvs, [], f, k, ⟨e, _⟩ => by cases e
  | p :: kvs, o :: os, f, k, ⟨v, r, f1, f2, e, ef, h1, h2⟩ => by
    have e1 : p.2 = v := (List.cons.inj e).1
    have e2 := (List.cons.inj e).2
    subst e1 e2
    rw [valV_cons]
    show match (if p.1 = k then some o else getK (kvs.map (·.1)) os k) with
      | some o => ∃ v, (if p.1 = k then some p.2 else valV kvs k) = some v ∧ See W H Z o v
      | none => (if p.1 = k then some p.2 else valV kvs k) = none
    by_cases h : p.1 = k
    · rw [if_pos h, if_pos h]; exact ⟨p.2, rfl, f1, h1⟩
    · rw [if_neg h, if_neg h]; exact getK_ros h2
def O.dk : O → Option (List Key × List O)
  | .dic ks xs => some (ks, xs)
  | .d (.dic ks xs) => some (ks, xs.map .d)
  | _ => none
theorem See.dict {o : O} {v : V} {ks : List Key} {xs : List O} (h : See W H Z o v) (q : o.dk = some (ks, xs)) : ∃ (a : Addr) (kvs : List (Key × V)) (f : List Addr), v = .ref a ∧ Rd H a (.dK kvs) ∧ kvs.map (·.1) = ks ∧ ROs W H Z xs (kvs.map (·.2)) f := by
  obtain ⟨f, h⟩ := h
  cases o with
  | dic ks' xs' =>
    cases q
    obtain ⟨a, kvs, f', e, hh, e1, nd, ef, r⟩ := h
    exact ⟨a, kvs, f', e, .inl hh, e1, r⟩
  | d x =>
    cases x with
    | dic ks' xs' =>
      cases q
      obtain ⟨⟨a, kvs, e, z, hh, e1, nd, r⟩, _⟩ := h
      exact ⟨a, kvs, [], e, hh, e1, r.ros⟩
    | _ => cases q
  | _ => cases q
theorem DGet.rd {a : Addr} {kvs : List (Key × V)} {k : Key} (h : Rd H a (.dK kvs)) : DGet H a (kV k) (valV kvs k) := by
  unfold DGet
  exact .inl ⟨kvs, k, h, rfl, rfl⟩
def fDget : O → O → Option O := fun a b => match a.dk, keyO b with
  | some (ks, xs), some k => match getK ks xs k with
    | some (.d x) => some (.d x)
    | _ => none
  | _, _ => none
theorem bDget : BinOk W fDget (fun x y H Q => ∃ a v, x = .ref a ∧ DGet H a y (some v) ∧ Q v H) := by
  intro Z F P e T σ H a b z v u Q hf sa sb rs k
  unfold fDget at hf
  split at hf
  · rename_i ks xs kk hx hk
    split at hf
    · rename_i x hg; cases hf
      obtain ⟨p, kvs, f, ev, hr, ek, ro⟩ := sa.dict hx
      have := getK_ros (k := kk) ro
      rw [ek, hg] at this
      obtain ⟨w, hw, sw⟩ := this
      refine ⟨p, w, ev, ?_, k w Z F H .refl (rs.push sw.d)⟩
      rw [sb.key hk, ← hw]
      exact DGet.rd hr
    · cases hf
  · cases hf
def fDin : O → O → Option O := fun b a => match a.dk, keyO b with
  | some (ks, xs), some k => some (.d (.bl (getK ks xs k).isSome))
  | _, _ => none
def fDnin : O → O → Option O := fun b a => match a.dk, keyO b with
  | some (ks, xs), some k => some (.d (.bl (!(getK ks xs k).isSome)))
  | _, _ => none
theorem dgetAny {p : Addr} {kvs : List (Key × V)} {xs : List O} {f : List Addr} {k : Key} {u : V} (hr : Rd H p (.dK kvs)) (ro : ROs W H Z xs (kvs.map (·.2)) f) (hu : u = kV k) : ∃ o, DGet H p u o ∧ o.isSome = (getK (kvs.map (·.1)) xs k).isSome := by
  have := getK_ros (k := k) ro
  refine ⟨valV kvs k, by rw [hu]; exact DGet.rd hr, ?_⟩
  cases q : getK (kvs.map (·.1)) xs k with
  | none => rw [q] at this; rw [show valV kvs k = none from this]; rfl
  | some o =>
    rw [q] at this
    obtain ⟨w, hw, _⟩ := this
    rw [hw]; rfl
theorem bDin : BinOk W fDin (fun y x H Q => ∃ a o, x = .ref a ∧ DGet H a y o ∧ Q (.bl o.isSome) H) := by
  intro Z F P e T σ H b a z u v Q hf sb sa rs k
  unfold fDin at hf
  split at hf
  · rename_i ks xs kk hx hk; cases hf
    obtain ⟨p, kvs, f, ev, hr, ek, ro⟩ := sa.dict hx
    obtain ⟨o, ho, hs⟩ := dgetAny hr ro (sb.key hk)
    refine ⟨p, o, ev, ho, ?_⟩
    rw [hs, ek]
    exact done_leaf (x := .bl (getK ks xs kk).isSome) rs (fun _ _ => rfl) k
  · cases hf
theorem bDnin : BinOk W fDnin (fun y x H Q => ∃ a o, x = .ref a ∧ DGet H a y o ∧ Q (.bl (!o.isSome)) H) := by
  intro Z F P e T σ H b a z u v Q hf sb sa rs k
  unfold fDnin at hf
  split at hf
  · rename_i ks xs kk hx hk; cases hf
    obtain ⟨p, kvs, f, ev, hr, ek, ro⟩ := sa.dict hx
    obtain ⟨o, ho, hs⟩ := dgetAny hr ro (sb.key hk)
    refine ⟨p, o, ev, ho, ?_⟩
    rw [hs, ek]
    exact done_leaf (x := .bl (!(getK ks xs kk).isSome)) rs (fun _ _ => rfl) k
  · cases hf
def putKs : List Key → List O → Key → O → List Key × List O
  | k :: ks, x :: xs, q, o => if k = q then (k :: ks, o :: xs) else (k :: (putKs ks xs q o).1, x :: (putKs ks xs q o).2)
  | _, _, q, o => ([q], [o])
theorem putKs_mem : ∀ {ks : List Key} {xs : List O} {q : Key} {o : O} {k : Key}, k ∈ (putKs ks xs q o).1 → k ∈ ks ∨ k = q
  | [], xs, q, o, k, h => by
    have : k ∈ [q] := h
    exact .inr (List.mem_singleton.mp this)
  | k0 :: ks, [], q, o, k, h => by
    have : k ∈ [q] := h
    exact .inr (List.mem_singleton.mp this)
  | k0 :: ks, x :: xs, q, o, k, h => by
    unfold putKs at h
    split at h
    · exact .inl h
    · rcases List.mem_cons.mp h with z | z
      · exact .inl (by rw [z]; exact List.mem_cons_self)
      · exact (putKs_mem z).imp (List.mem_cons_of_mem _) id
theorem putK_rel : ∀ {kvs : List (Key × V)} {os : List O} {f : List Addr} {k : Key} {o : O} {v : V} {g : List Addr}, (kvs.map (·.1)).Nodup → ROs W H Z os (kvs.map (·.2)) f → RO W H Z o v g →
    (putK kvs k v).map (·.1) = (putKs (kvs.map (·.1)) os k o).1 ∧ (putKs (kvs.map (·.1)) os k o).1.Nodup ∧ ∃ f1 f2 f3, f = f1 ++ f2 ++ f3 ∧ ROs W H Z (putKs (kvs.map (·.1)) os k o).2 ((putK kvs k v).map (·.2)) (f1 ++ g ++ f3)
  | [], [], f, k, o, v, g, _, ⟨_, ef⟩, h => by
    subst ef
    refine ⟨rfl, List.nodup_cons.mpr ⟨List.not_mem_nil, List.nodup_nil⟩, [], [], [], rfl, v, [], g, [], rfl, by simp, h, rfl, rfl⟩
  | [], o' :: os, f, k, o, v, g, _, ⟨_, _, _, _, e, _⟩, h => by cases e
  | p :: kvs, [], f, k, o, v, g, _, ⟨e, _⟩, h => by cases e
  | p :: kvs, o' :: os, f, k, o, v, g, nd, ⟨v', r, f1, f2, e, ef, h1, h2⟩, h => by
    have e1 : p.2 = v' := (List.cons.inj e).1
    have e2 := (List.cons.inj e).2
    subst e1 e2 ef
    have nd' := List.nodup_cons.mp nd
    by_cases q : p.1 = k
    · have hn : ∀ kv ∈ kvs, ¬ kv.1 = k := fun kv hk z => nd'.1 (by show p.1 ∈ _; rw [q, ← z]; exact List.mem_map_of_mem hk)
      have em : kvs.map (fun kv => if kv.1 = k then (kv.1, v) else kv) = kvs := by
        conv => rhs; rw [← List.map_id kvs]
        exact List.map_congr_left fun kv hk => by rw [if_neg (hn kv hk)]; rfl
      have ep : putK (p :: kvs) k v = (p.1, v) :: kvs := by
        unfold putK
        rw [if_pos (by rw [List.any_cons]; simp [q]), List.map_cons, if_pos q, em]
      have es : putKs ((p :: kvs).map (·.1)) (o' :: os) k o = (p.1 :: kvs.map (·.1), o :: os) := by
        show (if p.1 = k then _ else _) = _
        rw [if_pos q]
      rw [ep, es]
      exact ⟨rfl, nd, [], f1, f2, rfl, v, _, g, f2, rfl, by simp, h, h2⟩
    · obtain ⟨i1, i2, g1, g2, g3, eg, ir⟩ := putK_rel (k := k) nd'.2 h2 h
      have ep : putK (p :: kvs) k v = p :: putK kvs k v := by
        unfold putK
        rw [List.any_cons]
        simp only [q, decide_false, Bool.false_or, List.map_cons, if_false]
        split
        · rfl
        · rfl
      have es : putKs ((p :: kvs).map (·.1)) (o' :: os) k o = (p.1 :: (putKs (kvs.map (·.1)) os k o).1, o' :: (putKs (kvs.map (·.1)) os k o).2) := by
        show (if p.1 = k then _ else _) = _
        rw [if_neg q]
      rw [ep, es]
      refine ⟨by rw [List.map_cons, i1], List.nodup_cons.mpr ⟨fun z => ?_, i2⟩, f1 ++ g1, g2, g3, by rw [eg]; simp, p.2, _, f1, g1 ++ g ++ g3, rfl, by simp, h1, ir⟩
      rcases putKs_mem z with z | z
      · exact nd'.1 z
      · exact q z
theorem RS.dput {ks : List Key} {xs : List O} {a : Addr} {k : Key} {o : O} {v : V} (r : RS W Z F P e ((.dic ks xs, .ref a) :: (o, v) :: T) σ H) : ∃ kvs : List (Key × V), H a = some (.dK kvs) ∧ kvs.map (·.1) = ks ∧
    Stp Z F H Z F (upd H a (.dK (putK kvs k v))) ∧ RS W Z F P e ((.dic (putKs ks xs k o).1 (putKs ks xs k o).2, .ref a) :: T) σ (upd H a (.dK (putK kvs k v))) := by
  obtain ⟨f, ⟨a', kvs, f', ev, hh, e1, ndk, _, hc⟩, _⟩ := r.top
  cases ev
  refine ⟨kvs, hh, e1, ?_⟩
  have r' : RS W Z F P e (([(.dic ks xs, .ref a), (o, v)] : Ts) ++ T) σ H := r
  refine RS.write (C' := [(.dic (putKs ks xs k o).1 (putKs ks xs k o).2, .ref a)]) (o := .dK (putK kvs k v)) r' trivial (fun fC hC => ?_) (fun kp fC hC nd => ?_)
  · obtain ⟨v', rr, f1, f2, ev, ef, ⟨a', us', f3, ev', _, _, _, e3, _⟩, _⟩ := hC
    cases ev
    cases ev'
    rw [ef, e3]
    exact List.mem_append_left _ List.mem_cons_self
  · obtain ⟨v', rr, f1, f2, ev, ef, ⟨a', us', f3, ev', hh', e1', ndk', e3, hcs⟩, ho⟩ := hC
    cases ev
    cases ev'
    rw [hh] at hh'
    cases hh'
    have ho' := ros_one ho
    subst ef e3 e1
    have nd1 := List.nodup_append.mp nd
    have nd3 := List.nodup_cons.mp nd1.1
    have na : ∀ b ∈ f3, b ≠ a := fun b hb q => nd3.1 (by rw [← q]; exact hb)
    have nb : ∀ b ∈ f2, b ≠ a := fun b hb q => nd1.2.2 a List.mem_cons_self b hb q.symm
    obtain ⟨p1, p2, g1, g2, g3, eg, pr⟩ := putK_rel (k := k) ndk' (hcs.keep kp _ _ _ fun b hb u hu => by rw [upd_ne (na b hb)]; exact hu) (ho'.keep kp _ _ _ fun b hb u hu => by rw [upd_ne (nb b hb)]; exact hu)
    subst eg
    have pp : (a :: (g1 ++ g2 ++ g3) ++ f2).Perm (g2 ++ (a :: (g1 ++ f2 ++ g3))) := by
      refine (List.Perm.trans ?_ List.perm_middle.symm)
      refine List.Perm.cons a ?_
      show ((g1 ++ g2 ++ g3) ++ f2).Perm (g2 ++ (g1 ++ f2 ++ g3))
      simp only [List.append_assoc]
      refine (List.perm_append_comm_assoc g1 g2 _).trans ?_
      exact List.Perm.append_left _ (List.Perm.append_left _ List.perm_append_comm)
    have nd4 := pp.nodup nd
    exact ⟨a :: (g1 ++ f2 ++ g3), ROs.one ⟨a, putK kvs k v, _, rfl, upd_same, p1, p2, rfl, pr⟩, nd4.sublist (List.sublist_append_right _ _), fun b hb => pp.mem_iff.mpr (List.mem_append_right _ hb)⟩
def POpt (W : Wd) (Wo : WX) (Z F : Addr → Prop) (P : Nat → V) (T : Ts) (σ : L2.St) (H : Hp) (Q : Option Int → Hp → Prop) : Rs (Option Int) → Prop
  | .ok o e => ∀ Z' F' H', Stp Z F H Z' F' H' → RS W Z' F' P e T σ H' → Q o H'
  | .exc c ps e => XOk W Wo Z F P T σ H c ps e
  | .bad => False
def rdO (W : Wd) (Wo : WX) (d : En → Rs (Option Int)) : L2.TO := fun σ H Q => ∃ Z F P e T, RS W Z F P e T σ H ∧ POpt W Wo Z F P T σ H Q (d e)
def HO_ (X : Cx) (cl : Cl) (Wo : WX) (o : Option Expr) (d : En → Rs (Option Int)) : Prop := PO X o (rdO (Cx.wd X cl) Wo d)
theorem PO.imp {o : Option Expr} {t t' : L2.TO} (h : PO X o t) (k : ∀ σ H Q, t' σ H Q → t σ H Q) : PO X o t' := ⟨fun pins s σ H Q I q => h.run pins s σ H Q I (k σ H Q q)⟩
def oNone : En → Rs (Option Int) := fun e => .ok none e
def oSome (d : En → Rs Ar) : En → Rs (Option Int) := fun e => (d e).bind fun x e1 => match x.get e1 with
  | some (.d (.int i)) => .ok (some i) e1
  | _ => .bad
theorem ho_none : HO_ X cl Wo none oNone := PO.imp po_none fun σ H Q ⟨Z, F, P, e, T, r, k⟩ => k Z F H .refl r
theorem ho_some {ex : Expr} {d} (h : HV X cl Wo ex d) : HO_ X cl Wo (some ex) (oSome d) :=
  PO.imp (po_some h) fun σ H Q ⟨Z, F, P, e, T, r, k⟩ => by
    refine ⟨Z, F, P, e, T, r, ?_⟩
    unfold oSome at k
    cases q : d e with
    | bad => rw [q] at k; exact k
    | exc c ps e1 => rw [q] at k; exact k
    | ok x e1 =>
      rw [q] at k
      simp only [Rs.bind_ok] at k
      intro v Z1 F1 H1 s1 r1 a1
      split at k
      · rename_i i g
        obtain ⟨sv, r2⟩ := see_tmp r1 a1 g
        exact ⟨i, sv.int, k Z1 F1 H1 s1 r2⟩
      · exact k.elim
def cutD (xs : List D) (lo hi : Option Int) : List D := (xs.drop (HT.sIx xs.length 0 lo)).take (HT.sIx xs.length xs.length hi - HT.sIx xs.length 0 lo)
theorem RDs.drop : ∀ {ds : List D} {vs : List V} (n : Nat), RDs W H Z ds vs → RDs W H Z (ds.drop n) (vs.drop n)
  | ds, vs, 0, h => h
  | [], vs, n + 1, h => by rw [show vs = [] from h]; exact rfl
  | d :: ds, vs, n + 1, ⟨v, r, e, h1, h2⟩ => by rw [e]; exact RDs.drop n h2
theorem RDs.take : ∀ {ds : List D} {vs : List V} (n : Nat), RDs W H Z ds vs → RDs W H Z (ds.take n) (vs.take n)
  | ds, vs, 0, h => rfl
  | [], vs, n + 1, h => by rw [show vs = [] from h]; exact rfl
  | d :: ds, vs, n + 1, ⟨v, r, e, h1, h2⟩ => by rw [e]; exact ⟨v, r.take n, rfl, h1, RDs.take n h2⟩
theorem RDs.cut {ds : List D} {vs : List V} (h : RDs W H Z ds vs) (lo hi : Option Int) : RDs W H Z (cutD ds lo hi) (cutV vs lo hi) := by
  unfold cutD cutV
  rw [h.len]
  exact (h.drop _).take _
def dSl (f : O → Option Int → Option Int → Option O) (d : En → Rs Ar) (lo hi : En → Rs (Option Int)) : En → Rs O := fun e => (d e).bind fun x e1 => (lo e1).bind fun l e2 => (hi e2).bind fun u e3 => match x.get e3 with
  | some a => fin (f a l u) e3
  | none => .bad
def SlOk (W : Wd) (f : O → Option Int → Option Int → Option O) (r : V → Option Int → Option Int → Hp → VK → Prop) : Prop :=
  ∀ Z F P e T σ H a l u z v Q, f a l u = some z → See W H Z a v → RS W Z F P e T σ H → (∀ w Z' F' H', Stp Z F H Z' F' H' → RS W Z' F' P e ((z, w) :: T) σ H' → Q w H') → r v l u H Q
theorem rdSl {f} {r : V → Option Int → Option Int → Hp → VK → Prop} {d lo hi} (hf : SlOk W f r) (h : rdE W Wo (dSl f d lo hi) σ H Q) : tSl r (rdV W Wo d) (rdO W Wo lo) (rdO W Wo hi) σ H Q := by
  obtain ⟨Z, F, P, e, T, r0, k⟩ := h
  refine ⟨Z, F, P, e, T, r0, ?_⟩
  unfold dSl at k
  cases qa : d e with
  | bad => rw [qa] at k; exact k
  | exc c ps e1 => rw [qa] at k; exact k
  | ok x e1 =>
    rw [qa] at k
    simp only [Rs.bind_ok] at k
    intro v Z1 F1 H1 s1 r1 a1
    refine ⟨Z1, F1, P, e1, x.tmp v ++ T, r1, ?_⟩
    cases ql : lo e1 with
    | bad => rw [ql] at k; exact k
    | exc c ps e' => rw [ql] at k; exact XOk.pops (XOk.step s1 k)
    | ok l e2 =>
      rw [ql] at k
      simp only [Rs.bind_ok] at k
      intro Z2 F2 H2 s2 r2
      refine ⟨Z2, F2, P, e2, x.tmp v ++ T, r2, ?_⟩
      cases qh : hi e2 with
      | bad => rw [qh] at k; exact k
      | exc c ps e' => rw [qh] at k; exact XOk.pops (XOk.step (s1.trans s2) k)
      | ok u e3 =>
        rw [qh] at k
        simp only [Rs.bind_ok] at k
        intro Z3 F3 H3 s3 r3
        cases g : x.get e3 with
        | none => rw [g] at k; exact k.elim
        | some a =>
          rw [g] at k
          obtain ⟨sa, r4⟩ := see_tmp r3 a1 g
          cases qz : f a l u with
          | none => simp only [fin, qz] at k; exact k.elim
          | some z =>
            simp only [fin, qz] at k
            exact hf Z3 F3 P e3 T σ H3 a l u z v Q qz sa r4 fun w Z' F' H' s4 r5 => k w Z' F' H' (((s1.trans s2).trans s3).trans s4) r5
theorem he_slice {ex : Expr} {lo hi : Option Expr} {p2 : Pos} {f r} {d dl dh} (hr : SlR X r) (hf : SlOk (Cx.wd X cl) f r) (he : HV X cl Wo ex d) (hl : HO_ X cl Wo lo dl) (hu : HO_ X cl Wo hi dh) : HE X cl Wo (.Subscript ex (.Slice lo hi none p2) pos) (dSl f d dl dh) :=
  PE.imp (pe_slice hr he hl hu) fun σ H Q h => rdSl hf h
def fSlL : O → Option Int → Option Int → Option O := fun a l u => a.ls.map fun ds => .lst ((cutD ds l u).map .d)
theorem lSlL : SlOk W fSlL (rSlL W.K) := by
  intro Z F P e T σ H a l u z v Q hf sa rs k
  unfold fSlL at hf
  cases q : a.ls with
  | none => rw [q] at hf; cases hf
  | some ds =>
    rw [q] at hf; cases hf
    obtain ⟨p, vs, ev, hq, r⟩ := sa.list q
    exact ⟨p, vs, ev, hq, fun c hc => k _ _ _ _ (Stp.allocF hc) (rs.newL (r.cut l u) hc)⟩
def fSlT : O → Option Int → Option Int → Option O := fun a l u => a.tp.map fun ds => .d (.tup (cutD ds l u))
theorem cutD_all {ds : List D} {l u : Option Int} (h1 : HT.sIx ds.length 0 l = 0) (h2 : HT.sIx ds.length ds.length u = ds.length) : cutD ds l u = ds := by
  unfold cutD
  rw [h1, h2, List.drop_zero, Nat.sub_zero, List.take_length]
theorem lSlT : SlOk W fSlT (rSlN W.K) := by
  intro Z F P e T σ H a l u z v Q hf sa rs k
  unfold fSlT at hf
  cases q : a.tp with
  | none => rw [q] at hf; cases hf
  | some ds =>
    rw [q] at hf; cases hf
    obtain ⟨p, vs, ev, hq, r⟩ := sa.tuple q
    have d1 : RD W H Z (.tup ds) v := by
      cases a with
      | d x =>
        cases x with
        | tup es =>
          have : es = ds := Option.some.inj q
          subst this; exact sa.d
        | _ => cases q
      | _ => cases q
    refine ⟨p, vs, ev, hq, fun hc => ?_, fun _ c o hc ho => k _ _ _ _ (Stp.alloc hc) (rs.newT (r.cut l u) hc ho)⟩
    rw [← r.len] at hc
    have := cutD_all hc.1 hc.2
    simp only [this] at k
    exact k _ _ _ _ .refl (rs.push (by rw [← ev]; exact d1))
def D.tyn : D → Option String
  | .non => some "NoneType"
  | .bl _ => some "bool"
  | .int _ => some "int"
  | .str _ => some "str"
  | .tup _ => some "tuple"
  | .lst _ => some "list"
  | .dic _ _ => some "dict"
  | _ => none
theorem SqT.tyx {K : PySem.W.Frag} {a : Addr} {xs : List V} (h : SqT K H a xs) : TyX K H (.ref a) (.type "tuple") := by
  rcases h with (h | ⟨o, h⟩) | ⟨o, its, n, h, hc, _⟩
  · exact .base (.tup h)
  · exact .fTuple h
  · exact .kTuple h hc
theorem SqL.tyx {K : PySem.W.Frag} {a : Addr} {xs : List V} (h : SqL K H a xs) : TyX K H (.ref a) (.type "list") := by
  rcases h with (h | ⟨o, h⟩) | ⟨o, its, n, h, hc, _⟩
  · exact .base (.lst h)
  · exact .base (.frz h)
  · exact .kList h hc
theorem RD.tyx {d : D} {v : V} {n : String} (h : RD W H Z d v) (q : d.tyn = some n) : TyX W.K H v (.type n) := by
  cases d with
  | non => cases q; rw [show v = .non from h]; exact .base .non
  | bl b => cases q; rw [show v = .bl b from h]; exact .base (.bl b)
  | int b => cases q; rw [show v = .int b from h]; exact .base (.int b)
  | str b => cases q; rw [show v = .str b from h]; exact .base (.str b)
  | tup xs => cases q; obtain ⟨a, vs, rfl, hh, _⟩ := h; exact SqT.tyx hh.sq
  | lst xs => cases q; obtain ⟨a, vs, rfl, hh, _⟩ := h; exact SqL.tyx (.inl hh.2)
  | dic ks xs =>
    cases q
    obtain ⟨a, kvs, rfl, _, hh, _⟩ := h
    rcases hh with hh | ⟨o, hh⟩
    · exact .base (.dK hh)
    · exact .fDict hh
  | _ => cases q
def isB (a b : String) : Bool := a == b || (a == "bool" && b == "int")
def tyNames : List String := ["NoneType", "bool", "int", "str", "tuple", "list", "dict"]
theorem isB_ok : (tyNames.all fun a => ["bool", "int", "str", "tuple", "list", "dict"].all fun b => kitB a b == some (isB a b)) = true := by decide +kernel
theorem isB_kit {K : PySem.W.Frag} {a b : String} (ha : a ∈ tyNames) (hb : b ∈ ["bool", "int", "str", "tuple", "list", "dict"]) : PySem.W.kitOne K (.type a) (.type b) = some (isB a b) := by
  have h := List.all_eq_true.mp (List.all_eq_true.mp isB_ok a ha) b hb
  exact kit_ty (beq_iff_eq.mp h)
theorem tyn_mem {d : D} {n : String} (h : d.tyn = some n) : n ∈ tyNames := by
  cases d <;> first
    | (cases h; decide)
    | cases h
def fIsi : O → O → Option O
  | a, .d (.ty b) => match a.fz.tyn with
    | some n => if b ∈ ["bool", "int", "str", "tuple", "list", "dict"] then some (.d (.bl (isB n b))) else none
    | none => none
  | _, _ => none
theorem cIsi : CallOk W (on2 fIsi) (rIsi W.K) := by
  intro Z F P e T σ H os z vs Q hf ss rs k
  obtain ⟨o, p, rfl, hg⟩ := on2_some hf
  clear hf
  obtain ⟨v, u, rfl, s, s'⟩ := ss.two
  unfold fIsi at hg
  split at hg
  · rename_i b
    split at hg
    · rename_i n hn
      split at hg
      · rename_i hb; cases hg
        have eu : u = .ty b := s'.d
        subst eu
        exact ⟨v, .ty b, .type n, .type b, isB n b, rfl, .ty b, s.all.tyx hn, isB_kit (tyn_mem hn) hb, done_leaf (x := .bl (isB n b)) rs (fun _ _ => rfl) k⟩
      · cases hg
    · cases hg
  · cases hg
def fIsiB (bs : List String) (a : O) : Option O := a.fz.tyn.map fun n => .d (.bl (bs.any (isB n)))
end
end MX
namespace PySem
theorem meets_enumerate_newB1 {v : Value} {o : Obj} {H : Heap → Prop} (B : Begins v o H) :
    Meets (Builtin.«enumerate.__new__» ⟨[.type "enumerate", v], []⟩) (fun _ R s => H s.heap ∧
      R (.ok (.ret (.ref (s.heap.push o).objs.size))) { s with heap := (s.heap.push o).push { cls := .type "enumerate", data := .fields #[.none, .bool false, .ref s.heap.objs.size, rawInt 0, .none, .none] } }) :=
  .of_wp fun prog w A R s h => by
    obtain ⟨hp, g, d, tk, os⟩ := s; obtain ⟨h1, h⟩ := h
    have hsub := sub_enumerate
    have q1 : ∀ {A' : Around} {E : Value → Shared → Prop} {Q : Value → Shared → Prop}, Q (.ref hp.objs.size) ⟨hp.push o, g, d, tk, os⟩ → wpAny (model prog w) A' (pyIter v) Q E ⟨hp, g, d, tk, os⟩ :=
      fun q => B.iter prog w _ _ ⟨hp, g, d, tk, os⟩ _ h1 q
    wp_walk using q1
    refine wpAny_stack_any fun st => wpAny_pure ?_
    split
    · rename_i c _ _ _ _ _
      cases (c == Value.type "enumerate")
      · wp_walk using q1
        exact ⟨_, rfl, h⟩
      · wp_walk using q1
        exact ⟨_, rfl, h⟩
    · wp_walk using q1
      exact ⟨_, rfl, h⟩
section
variable {prog : Program} {w : World} {A : Around} {E : Value → Shared → Prop} {s : Shared}
theorem enum_begins1 {v : Value} {o : Obj} {H : Heap → Prop} {Q : Value → Shared → Prop} (B : Begins v o H) (h1 : H s.heap)
    (h : ∀ h', IsEnum h' (s.heap.objs.size + 1) s.heap.objs.size 0 .none → h'.get? s.heap.objs.size = some o → h'.objs.size = s.heap.objs.size + 2 →
      (∀ b o, s.heap.get? b = some o → h'.get? b = some o) → Q (.ref (s.heap.objs.size + 1)) { s with heap := h' }) :
    wpAny (model prog w) A (call (.type "enumerate") [v]) Q E s := by
  refine callType_new F.called_enumerate (by decide) (F.typeCall_enumerate_1 _) (F.newCall_enumerate_1 _) (fun obj => F.args_object_init_2 obj _) F.entry_enumerate_new
    (meets_enumerate_newB1 B) ⟨h1, ?_⟩
  have hz : (s.heap.push o).objs.size = s.heap.objs.size + 1 := Heap.size_push ..
  show _ ∧ _
  rw [hz]
  have he : IsEnum ((s.heap.push o).push { cls := .type "enumerate", data := .fields #[.none, .bool false, .ref s.heap.objs.size, rawInt 0, .none, .none] }) (s.heap.objs.size + 1) s.heap.objs.size 0 .none := by
    have := Heap.get?_push_size (s.heap.push o) (o := { cls := .type "enumerate", data := .fields #[.none, .bool false, .ref s.heap.objs.size, rawInt 0, .none, .none] }) rfl
    rw [hz] at this; exact this
  refine ⟨⟨_, he, rfl⟩, h _ he (Heap.get?_push_of_some _ (Heap.get?_push_size _ B.free)) (by rw [Heap.size_push, hz]) fun b o x => Heap.get?_push_of_some _ (Heap.get?_push_of_some _ x)⟩
end
end PySem
namespace MX
open PySem L2 PySem.Spec PyProof.Rows
def SqK (K : PySem.W.Frag) : Bool → Hp → Addr → List V → Prop
  | true => SqT K
  | false => SqL K
def SqIt : Bool → Heap → Addr → Addr → Nat → Prop
  | true => fun h it a i => h.IsTupleIter it a i
  | false => fun h it a i => h.IsListIter it a i
def SqO : Bool → Heap → Addr → Array Value → Prop
  | true => fun h a its => h.IsTuple a its
  | false => fun h a its => h.IsList a its
def itObj : Bool → Addr → Obj
  | true => fun a => { cls := .type "tuple_iterator", data := .fields #[.ref a, .int 0 0] }
  | false => fun a => { cls := .type "list_iterator", data := .fields #[.ref a, .int 0 0] }
theorem begins_seq (k : Bool) (a : Addr) (its : Array Value) : Begins (.ref a) (itObj k a) fun h => SqO k h a its := by
  cases k
  · exact begins_list a its
  · exact begins_tuple a its
theorem itObj_at {k : Bool} {h : Heap} {it a : Addr} (e : h.get? it = some (itObj k a)) : SqIt k h it a 0 := by
  cases k
  · exact ⟨_, e, rfl, rfl⟩
  · exact ⟨_, e, rfl, rfl⟩
theorem SqIt.at {k : Bool} {h h' : Heap} {it a : Addr} {i : Nat} (x : SqIt k h it a i) (e : ∀ o, h.get? it = some o → h'.get? it = some o) : SqIt k h' it a i := by
  cases k
  · exact Heap.IsListIter.at x e
  · exact Heap.IsTupleIter.at x e
theorem SqIt.obj {k : Bool} {h : Heap} {it a : Addr} {i : Nat} (x : SqIt k h it a i) : ∃ o, h.get? it = some o ∧ ∀ v, o.data ≠ .cell v := by
  cases k
  · obtain ⟨o, e, _, d⟩ := x
    exact ⟨o, e, fun v q => by rw [d] at q; cases q⟩
  · obtain ⟨o, e, _, d⟩ := x
    exact ⟨o, e, fun v q => by rw [d] at q; cases q⟩
theorem draws_seq {prog : Program} {w : World} {A : Around} (hh : A.handled = none) (k : Bool) (it a : Addr) (hne : a ≠ it) (items : Array Value) :
    Draws prog w A it [it, a] items.size (fun i v => items[i]? = some v) (fun i h => SqIt k h it a i ∧ SqO k h a items) := by
  cases k
  · exact Draws.list hh it a hne items
  · exact Draws.tuple hh it a hne items
section
variable {X : Cx} {pins : List (Addr × Obj)} {σ : L2.St} {H : Hp} {s : Shared}
theorem inv_sq {k : Bool} {a : Addr} {xs : List V} (I : Inv X pins σ H s) (h : SqK X.K k H a xs) : ∃ its : List Value, Vals xs its ∧ SqO k s.heap a its.toArray ∧ a < s.heap.objs.size := by
  cases k
  · obtain ⟨its, rv, p, _⟩ := I.list h
    exact ⟨its, rv, p.isList, p.lt⟩
  · obtain ⟨its, rv, p, _⟩ := I.tuple h
    obtain ⟨o, ho, _⟩ := id p
    exact ⟨its, rv, p, Heap.lt_size ho⟩
theorem inv_sq_inj {k : Bool} {a : Addr} {xs ys : List V} (I : Inv X pins σ H s) (h : SqK X.K k H a xs) (h' : SqK X.K k H a ys) : xs = ys := by
  cases k
  · exact I.list_inj h h'
  · exact I.tuple_inj h h'
end
def ItE (K : PySem.W.Frag) (k : Bool) (a : Addr) : It :=
  ⟨fun i H => ∃ (xs : List V) (x : V), SqK K k H a xs ∧ xs[i]? = some x, fun i H v H' => ∃ T o x, v = .ref T ∧ H T = none ∧ o.dict = none ∧ H' = upd H T (.frz o (.tup [.int (i : Nat), x])) ∧ ∀ xs, SqK K k H a xs → xs[i]? = some x, fun i H => ∃ xs : List V, SqK K k H a xs ∧ xs.length = i⟩
theorem turn_e {P : Program} {w : World} {K : PySem.W.Frag} {elts : List Expr} {kk : Nat} {tpos : Pos} (k : Bool) (a e it : Addr) (hea : e ≠ a) (hia : it ≠ a) :
    Turn P w K (.Tuple elts kk tpos) (ItE K k a) [e, it] e (fun i h => (∃ old, IsEnum h e it ((i : Nat) : Int) old) ∧ SqIt k h it a i ∧ e ≠ it) where
  mem := by simp
  obj := fun i h st b hb => by
    obtain ⟨⟨old, he⟩, hi, _⟩ := st
    have e' : b = e ∨ b = it := by simpa using hb
    rcases e' with z | z
    · rw [z]; exact ⟨_, he, fun v q => nomatch q⟩
    · rw [z]; exact hi.obj
  keep := fun i h h' st k => let ⟨⟨old, he⟩, hi, hne⟩ := st; ⟨⟨old, k e (by simp) _ he⟩, hi.at fun o q => k it (by simp) o q, hne⟩
  item := by
    intro X hP hw hK hc i pins s σ H E I hf st hg
    subst hP hw hK
    obtain ⟨⟨old, he⟩, hit, hne⟩ := st
    obtain ⟨xs, x, hq, hx⟩ := hg
    obtain ⟨its, rv, p, hlt⟩ := inv_sq I hq
    obtain ⟨u, hu, ru⟩ := rv.get hx
    have hel : e < s.heap.objs.size := Heap.lt_size he
    have hil : it < s.heap.objs.size := by obtain ⟨_, q, _⟩ := hit.obj; exact Heap.lt_size q
    have D := draws_seq (prog := X.prog) (w := X.w) (A := X.A.in1) (I.ok.hd hc) k it a (Ne.symm hia) its.toArray
    refine wpAny_pyNext_enum_itemC D he ⟨hit, p⟩ (by rw [List.size_toArray]; exact lt_of_get hu) hne (by simp [hne, hea]) fun x' h' tk hx' ho hst hT hsz hk => ?_
    have hx'' : u = x' := by
      have : its[i]? = some x' := by simpa using hx'
      rw [hu] at this
      exact Option.some.inj this
    subst hx''
    refine ⟨_, rfl, wpAny_letOwnedTupleGo_enum (s := { s with heap := h', toks := tk + 1 }) ho fun h'' he' sb => ?_⟩
    have hT2 : h''.get? s.heap.objs.size = some { cls := .type "tuple", data := .seq #[.int i tk, u] } := (sb.2 _ (Nat.ne_of_gt hel)).trans hT
    have new : ObjOk X.prog X.w (upd H s.heap.objs.size (.frz { cls := .type "tuple", data := .seq #[.int i tk, u] } (.tup [.int (i : Nat), x]))) h'' s.heap.objs.size (.frz { cls := .type "tuple", data := .seq #[.int i tk, u] } (.tup [.int (i : Nat), x])) :=
      ⟨hT2, by show 2 ≤ sizeLine; decide, [.int i tk, u], .cons ⟨_, rfl⟩ (.cons ru .nil), ⟨_, hT2, rfl, _, rfl⟩⟩
    have I1 : Inv X pins σ (upd H s.heap.objs.size (.frz { cls := .type "tuple", data := .seq #[.int i tk, u] } (.tup [.int (i : Nat), x]))) { s with heap := h'', toks := tk + 1 } :=
      I.turnedNew (ch := [e, it]) (fun b ob hb q => (sb.2 b (fun z => hb (by simp [z]))).trans (hk b ob (fun z => hb (by simp [z])) (fun z => hb (by simp [z])) q)) hf (Nat.le_refl _) new
    refine ⟨.ref s.heap.objs.size, _, I1, rfl, ⟨_, _, x, rfl, I.hok.fresh (Nat.le_refl _), rfl, rfl, fun ys hy => by rw [inv_sq_inj I hy hq]; exact hx⟩, ⟨⟨u, ?_⟩, hst.1.at fun o q => (sb.2 it (Ne.symm hne)).trans q, hne⟩, fun b hb => ?_⟩
    · have e1 : ((i + 1 : Nat) : Int) = (i : Int) + 1 := by omega
      rw [e1]; exact he'
    · have hb' : b < s.heap.objs.size := by
        have e' : b = e ∨ b = it := by simpa using hb
        rcases e' with z | z
        · rw [z]; exact hel
        · rw [z]; exact hil
      rw [upd_ne (Nat.ne_of_lt hb')]
      exact (hf b hb).1
  done := by
    intro X hP hw hK hc i pins s σ H E I hf st hg
    subst hP hw hK
    obtain ⟨⟨old, he⟩, hit, hne⟩ := st
    obtain ⟨xs, hq, hx⟩ := hg
    obtain ⟨its, rv, p, hlt⟩ := inv_sq I hq
    obtain ⟨f0, f1, f2, f3, f4, f5⟩ := hf it (by simp)
    have D := draws_seq (prog := X.prog) (w := X.w) (A := X.A.in1) (I.ok.hd hc) k it a (Ne.symm hia) its.toArray
    have hl : i = its.toArray.size := by rw [List.size_toArray, ← rv.length, hx]
    subst hl
    exact wpAny_pyNext_enum_endD D he ⟨hit, p⟩ fun h' eb => ⟨rfl, I.turned (t' := s.toks) (fun b o hb q => eb b o hb q) f0 f1 f3 f4 f5⟩
  self := fun A i s Q E st h => let ⟨⟨_, he⟩, _⟩ := st; wpAny_pyIter_enum he h
def iE (K : PySem.W.Frag) (ta : TA) : TI := fun σ H R => ta σ H fun vs H1 => ∃ k a xs, vs = [.ref a] ∧ SqK K k H1 a xs ∧ R (ItE K k a) H1
theorem pi_e {X : Cx} {e : Expr} {ta : TA} {p pos tpos : Pos} {elts : List Expr} {kk : Nat} (hg : Gl X "enumerate") (hm : X.mg "enumerate" = none) (ha : PA X [e] ta) (hs : starEach [e] X.env = [(false, eval e X.env)] := by rfl) :
    PI X (.Tuple elts kk tpos) (.Call (.Name "enumerate" p) [e] [] pos) (iE X.K ta) := by
  refine ⟨fun pins s σ H R I h => ?_⟩
  refine Call_ (ld_blt I hg hm boot_enumerate (PyProof.Rows.callWith_type1 (thn (ha.run pos pins s σ H _ I h) fun us s1 ⟨vs, H1, I1, r1, q1⟩ => ?_) hs rfl))
  obtain ⟨k, a, xs, ex, hq, q⟩ := q1
  subst ex
  cases r1 with
  | cons r rr =>
    cases rr
    cases r
    obtain ⟨its, rv, p', hlt⟩ := inv_sq I1 hq
    refine enum_begins1 (begins_seq k a its.toArray) p' fun h' he hit hsz hk => wpAny_pyIter_enum he ?_
    have I2 : Inv X pins σ H1 { s1 with heap := h' } := I1.kept (t' := s1.toks) hk
    refine ⟨s1.heap.objs.size + 1, [s1.heap.objs.size + 1, s1.heap.objs.size], _, _, H1, rfl, I2, turn_e k a (s1.heap.objs.size + 1) s1.heap.objs.size (Nat.ne_of_gt (Nat.lt_succ_of_lt hlt)) (Nat.ne_of_gt hlt), ⟨⟨.none, he⟩, itObj_at hit, Nat.succ_ne_self _⟩, fun b hb => ?_, q⟩
    have e' : b = s1.heap.objs.size + 1 ∨ b = s1.heap.objs.size := by simpa using hb
    have hle : s1.heap.objs.size ≤ b := by
      rcases e' with z | z
      · rw [z]; exact Nat.le_add_right _ _
      · rw [z]; exact Nat.le_refl _
    exact I1.fpOk hle (I1.hok.fresh hle)
def ItZ (K : PySem.W.Frag) (k1 k2 : Bool) (a b : Addr) : It :=
  ⟨fun i H => ∃ (xs ys : List V) (x y : V), SqK K k1 H a xs ∧ SqK K k2 H b ys ∧ xs[i]? = some x ∧ ys[i]? = some y,
    fun i H v H' => ∃ T o x y, v = .ref T ∧ H T = none ∧ o.dict = none ∧ H' = upd H T (.frz o (.tup [x, y])) ∧ (∀ xs, SqK K k1 H a xs → xs[i]? = some x) ∧ ∀ ys, SqK K k2 H b ys → ys[i]? = some y,
    fun i H => ∃ xs ys : List V, SqK K k1 H a xs ∧ SqK K k2 H b ys ∧ i = min xs.length ys.length⟩
theorem sep2 {z TI TO i1 i2 a b N : Addr} (ha : a < N) (hb : b < N) (h : z = N + 4 ∧ TI = N + 2 ∧ TO = N + 3 ∧ i1 = N ∧ i2 = N + 1) : ZipSep2 z TI TO i1 i2 [i1, a] [i2, b] := by
  obtain ⟨rfl, rfl, rfl, rfl, rfl⟩ := h
  exact zip_sep2 (fp1 := [a]) (fp2 := [b]) (by simpa using ha) (by simpa using hb)
theorem turn_z {P : Program} {w : World} {K : PySem.W.Frag} {elts : List Expr} {kk : Nat} {tpos : Pos} {a b z TI TO i1 i2 : Addr} (k1 k2 : Bool) (S : ZipSep2 z TI TO i1 i2 [i1, a] [i2, b]) (h1a : a ≠ i1) (h2b : b ≠ i2) :
    Turn P w K (.Tuple elts kk tpos) (ItZ K k1 k2 a b) [z, TI, TO, i1, i2] z (fun i h => IsZip h z TI TO .none ∧ IsTupOf2 h TI (.ref i1) (.ref i2) ∧ (∃ x y, IsTupOf2 h TO x y) ∧ SqIt k1 h i1 a i ∧ SqIt k2 h i2 b i) where
  mem := by simp
  obj := fun i h st c hc => by
    obtain ⟨hz, hTI, ⟨x, y, hTO⟩, h1, h2⟩ := st
    have e' : c = z ∨ c = TI ∨ c = TO ∨ c = i1 ∨ c = i2 := by simpa using hc
    rcases e' with q | q | q | q | q
    · rw [q]; exact ⟨_, hz, fun v q => nomatch q⟩
    · rw [q]; exact ⟨_, hTI, fun v q => nomatch q⟩
    · rw [q]; exact ⟨_, hTO, fun v q => nomatch q⟩
    · rw [q]; exact h1.obj
    · rw [q]; exact h2.obj
  keep := fun i h h' st k => by
    obtain ⟨hz, hTI, ⟨x, y, hTO⟩, h1, h2⟩ := st
    exact ⟨k z (by simp) _ hz, k TI (by simp) _ hTI, ⟨x, y, k TO (by simp) _ hTO⟩, h1.at fun o q => k i1 (by simp) o q, h2.at fun o q => k i2 (by simp) o q⟩
  item := by
    intro X hP hw hK hc i pins s σ H E I hf st hg
    subst hP hw hK
    obtain ⟨hz, hTI, ⟨x0, y0, hTO⟩, h1, h2⟩ := st
    obtain ⟨xs, ys, x, y, hqx, hqy, hx, hy⟩ := hg
    obtain ⟨its, rv, p, _⟩ := inv_sq I hqx
    obtain ⟨its2, rv2, p2, _⟩ := inv_sq I hqy
    obtain ⟨u, hu, ru⟩ := rv.get hx
    obtain ⟨u2, hu2, ru2⟩ := rv2.get hy
    have hzl : z < s.heap.objs.size := Heap.lt_size hz
    have D1 := draws_seq (prog := X.prog) (w := X.w) (A := X.A.in1) (I.ok.hd hc) k1 i1 a h1a its.toArray
    have D2 := draws_seq (prog := X.prog) (w := X.w) (A := X.A.in1) (I.ok.hd hc) k2 i2 b h2b its2.toArray
    refine wpAny_pyNext_zipD2_item S D1 D2 hz hTI hTO ⟨h1, p⟩ ⟨h2, p2⟩ (by rw [List.size_toArray]; exact lt_of_get hu) (by rw [List.size_toArray]; exact lt_of_get hu2) fun x1 x2 h' tk px py z' TO' h1' h2' hT hsz hk => ?_
    have ex : u = x1 := by
      have : its[i]? = some x1 := by simpa using px
      rw [hu] at this
      exact Option.some.inj this
    have ey : u2 = x2 := by
      have : its2[i]? = some x2 := by simpa using py
      rw [hu2] at this
      exact Option.some.inj this
    subst ex ey
    refine ⟨_, rfl, wpAny_letOwnedTupleGo_zip (s := { s with heap := h', toks := tk }) z' fun h'' z'' sb => ?_⟩
    have hT2 : h''.get? s.heap.objs.size = some { cls := .type "tuple", data := .seq #[u, u2] } := (sb.2 _ (Nat.ne_of_gt hzl)).trans hT
    have new : ObjOk X.prog X.w (upd H s.heap.objs.size (.frz { cls := .type "tuple", data := .seq #[u, u2] } (.tup [x, y]))) h'' s.heap.objs.size (.frz { cls := .type "tuple", data := .seq #[u, u2] } (.tup [x, y])) :=
      ⟨hT2, by show 2 ≤ sizeLine; decide, [u, u2], .cons ru (.cons ru2 .nil), ⟨_, hT2, rfl, _, rfl⟩⟩
    have I1 : Inv X pins σ (upd H s.heap.objs.size (.frz { cls := .type "tuple", data := .seq #[u, u2] } (.tup [x, y]))) { s with heap := h'', toks := tk } :=
      I.turnedNew (ch := [z, TI, TO, i1, i2]) (fun c o hb q => (sb.2 c (fun q' => hb (by simp [q']))).trans (hk c o (fun q' => hb (by simp [q'])) (fun q' => hb (by simp [q'])) (fun q' => hb (by simp [q'])) (fun q' => hb (by simp [q'])) q)) hf (Nat.le_refl _) new
    refine ⟨.ref s.heap.objs.size, _, I1, rfl, ⟨_, _, x, y, rfl, I.hok.fresh (Nat.le_refl _), rfl, rfl, fun l hl => by rw [inv_sq_inj I hl hqx]; exact hx, fun l hl => by rw [inv_sq_inj I hl hqy]; exact hy⟩, ⟨z'', ?_, ⟨u, u2, ?_⟩, ?_, ?_⟩, fun c hcm => ?_⟩
    · exact (sb.2 _ S.TIz).trans (hk _ _ S.TIz S.TITO S.TIi1 S.TIi2 hTI)
    · exact (sb.2 _ S.TOz).trans TO'
    · exact h1'.1.at fun o q => (sb.2 _ (Ne.symm S.zi1)).trans q
    · exact h2'.1.at fun o q => (sb.2 _ (Ne.symm S.zi2)).trans q
    · have hlt : c < s.heap.objs.size := by
        have e' : c = z ∨ c = TI ∨ c = TO ∨ c = i1 ∨ c = i2 := by simpa using hcm
        rcases e' with q | q | q | q | q
        · rw [q]; exact hzl
        · rw [q]; exact Heap.lt_size hTI
        · rw [q]; exact Heap.lt_size hTO
        · rw [q]; obtain ⟨_, e1, _⟩ := h1.obj; exact Heap.lt_size e1
        · rw [q]; obtain ⟨_, e2, _⟩ := h2.obj; exact Heap.lt_size e2
      rw [upd_ne (Nat.ne_of_lt hlt)]
      exact (hf c hcm).1
  done := by
    intro X hP hw hK hc i pins s σ H E I hf st hg
    subst hP hw hK
    obtain ⟨hz, hTI, ⟨x0, y0, hTO⟩, h1, h2⟩ := st
    obtain ⟨xs, ys, hqx, hqy, hend⟩ := hg
    obtain ⟨its, rv, p, _⟩ := inv_sq I hqx
    obtain ⟨its2, rv2, p2, _⟩ := inv_sq I hqy
    have D1 := draws_seq (prog := X.prog) (w := X.w) (A := X.A.in1) (I.ok.hd hc) k1 i1 a h1a its.toArray
    have D2 := draws_seq (prog := X.prog) (w := X.w) (A := X.A.in1) (I.ok.hd hc) k2 i2 b h2b its2.toArray
    have l1 := rv.length
    have l2 := rv2.length
    exact wpAny_pyNext_zipD2_end S D1 D2 hz hTI hTO ⟨h1, p⟩ ⟨h2, p2⟩ (by rw [List.size_toArray]; omega) (by rw [List.size_toArray]; omega) (by rw [List.size_toArray, List.size_toArray]; omega) fun h' tk hk => ⟨rfl, I.turnedL (ch := [z, TI, TO, i1, i2]) (fun c o hb q =>
      hk c o (fun q' => hb (by simp [q'])) (fun q' => hb (by simp [q'])) (fun q' => hb (by simp [q'])) (fun q' => hb (by simp [q'])) q) hf⟩
  self := fun A i s Q E st h => wpAny_pyIter_zip st.1 h
def iZ (K : PySem.W.Frag) (ta : TA) : TI := fun σ H R => ta σ H fun vs H1 => ∃ k1 k2 a b xs ys, vs = [.ref a, .ref b] ∧ SqK K k1 H1 a xs ∧ SqK K k2 H1 b ys ∧ R (ItZ K k1 k2 a b) H1
theorem pi_z {X : Cx} {e e2 : Expr} {ta : TA} {p pos tpos : Pos} {elts : List Expr} {kk : Nat} (hg : Gl X "zip") (hm : X.mg "zip" = none) (ha : PA X [e, e2] ta)
    (hs : starEach [e, e2] X.env = (false, eval e X.env) :: starEach [e2] X.env := by rfl) (hpl : (backTo pos (starEach [e2] X.env)).any (·.1) = false := by rfl) :
    PI X (.Tuple elts kk tpos) (.Call (.Name "zip" p) [e, e2] [] pos) (iZ X.K ta) := by
  refine ⟨fun pins s σ H R I h => ?_⟩
  refine Call_ (ld_blt I hg hm PyProof.Rows.boot_zip (PyProof.Rows.callWith_type1 (thn (ha.run pos pins s σ H _ I h) fun us s1 ⟨vs, H1, I1, r1, q1⟩ => ?_) hs hpl))
  obtain ⟨k1, k2, a, b, xs, ys, ex, hqx, hqy, q⟩ := q1
  subst ex
  cases r1 with
  | cons r rr =>
    cases rr with
    | cons r' rr =>
      cases rr
      cases r
      cases r'
      have fresh5 : ∀ c, c ∈ [s1.heap.objs.size + 4, s1.heap.objs.size + 2, s1.heap.objs.size + 3, s1.heap.objs.size, s1.heap.objs.size + 1] → FpOk X pins H1 c := fun c hcm => by
        have e' : c = s1.heap.objs.size + 4 ∨ c = s1.heap.objs.size + 2 ∨ c = s1.heap.objs.size + 3 ∨ c = s1.heap.objs.size ∨ c = s1.heap.objs.size + 1 := by simpa using hcm
        have hle : s1.heap.objs.size ≤ c := by
          rcases e' with z | z | z | z | z
          · rw [z]; exact Nat.le_add_right _ _
          · rw [z]; exact Nat.le_add_right _ _
          · rw [z]; exact Nat.le_add_right _ _
          · rw [z]; exact Nat.le_refl _
          · rw [z]; exact Nat.le_add_right _ _
        exact I1.fpOk hle (I1.hok.fresh hle)
      obtain ⟨its, rv, p1, l1⟩ := inv_sq I1 hqx
      obtain ⟨its2, rv2, p2, l2⟩ := inv_sq I1 hqy
      refine zip_begins2 (begins_seq k1 a its.toArray) (begins_seq k2 b its2.toArray) p1 p2 fun h' hz hTI hTO h1 h2 hsz hk => wpAny_pyIter_zip hz ?_
      have I2 : Inv X pins σ H1 { s1 with heap := h' } := I1.kept (t' := s1.toks) hk
      exact ⟨s1.heap.objs.size + 4, [s1.heap.objs.size + 4, s1.heap.objs.size + 2, s1.heap.objs.size + 3, s1.heap.objs.size, s1.heap.objs.size + 1], _, _, H1, rfl, I2, turn_z k1 k2 (sep2 l1 l2 ⟨rfl, rfl, rfl, rfl, rfl⟩) (Nat.ne_of_lt l1) (Nat.ne_of_lt (Nat.lt_succ_of_lt l2)), ⟨hz, hTI, ⟨_, _, hTO⟩, itObj_at h1, itObj_at h2⟩, fresh5, q⟩
end MX
namespace MX
open PySem L2
section
variable {X : Cx} {cl : Cl} {Wo : WX} {pos : Pos}
variable {W : Wd} {Z F Z' F' : Addr → Prop} {P P' : Nat → V} {e : En} {T : Ts} {σ : L2.St} {H H' : Hp} {Q : VK}
def dOr {α : Type} (a b : En → Rs α) : En → Rs α := fun e => match a e with
  | .bad => b e
  | r => r
theorem dOr_cases {α : Type} {a b : En → Rs α} {p : Rs α → Prop} (h : p (dOr a b e)) (hb : ¬ p .bad) : p (a e) ∨ p (b e) := by
  unfold dOr at h
  cases q : a e with
  | bad => rw [q] at h; exact .inr h
  | ok x e1 => rw [q] at h; exact .inl h
  | exc c ps e1 => rw [q] at h; exact .inl h
theorem PE.or {ex : Expr} {t u : TE} (h : PE X ex t) (h' : PE X ex u) : PE X ex (fun σ H Q => t σ H Q ∨ u σ H Q) := ⟨fun pins s σ H Q I q => q.elim (h.run pins s σ H Q I) (h'.run pins s σ H Q I)⟩
theorem he_alt {ex : Expr} {a b} (h : HE X cl Wo ex a) (h' : HE X cl Wo ex b) : HE X cl Wo ex (dOr a b) :=
  PE.imp (PE.or h h') fun σ H Q ⟨Z, F, P, e, T, r, k⟩ => (dOr_cases k id).imp (fun k => ⟨Z, F, P, e, T, r, k⟩) (fun k => ⟨Z, F, P, e, T, r, k⟩)
theorem PI.or {tg it : Expr} {t u : TI} (h : PI X tg it t) (h' : PI X tg it u) : PI X tg it (fun σ H R => t σ H R ∨ u σ H R) := ⟨fun pins s σ H R I q => q.elim (h.run pins s σ H R I) (h'.run pins s σ H R I)⟩
theorem hi_alt {tg it : Expr} {a b} (h : HI X cl Wo tg it a) (h' : HI X cl Wo tg it b) : HI X cl Wo tg it (dOr a b) :=
  PI.imp (PI.or h h') fun σ H R ⟨Z, F, P, e, T, r, k⟩ => by
    have : ∀ d : En → Rs (List D), (match d e with
      | .ok ds e' => ∀ Z' F' H' J T2, Stp Z F H Z' F' H' → RS (Cx.wd X cl) Z' F' P e' (T2 ++ T) σ H' → ItOk (Cx.wd X cl) J T2 ds → R J H'
      | .exc c ps e' => XOk (Cx.wd X cl) Wo Z F P T σ H c ps e'
      | .bad => False) → rdI (Cx.wd X cl) Wo d σ H R := fun d k => ⟨Z, F, P, e, T, r, k⟩
    unfold dOr at k
    cases q : a e with
    | bad => rw [q] at k; exact .inr (this b k)
    | ok x e1 => rw [q] at k; exact .inl (this a (by rw [q]; exact k))
    | exc c ps e1 => rw [q] at k; exact .inl (this a (by rw [q]; exact k))
def dFz (d : En → Rs O) : En → Rs O := fun e => (d e).bind fun o e1 => .ok (.d o.fz) e1
theorem he_fz {ex : Expr} {d} (h : HE X cl Wo ex d) : HE X cl Wo ex (dFz d) :=
  PE.imp h fun σ H Q ⟨Z, F, P, e, T, r, k⟩ => by
    refine ⟨Z, F, P, e, T, r, ?_⟩
    unfold dFz at k
    cases q : d e with
    | bad => rw [q] at k; exact k
    | exc c ps e1 => rw [q] at k; exact k
    | ok o e1 =>
      rw [q] at k
      intro v Z1 F1 H1 s1 r1
      obtain ⟨Z2, F2, s2, r2⟩ := r1.freeze
      exact k v Z2 F2 H1 (s1.trans s2) r2
def fAdd (a b : O) : Option O := match fAddI a b with
  | some z => some z
  | none => match fAddS a b with
    | some z => some z
    | none => match fCat a b with
      | some z => some z
      | none => fCatT a b
theorem he_add {a b : Expr} {da db} (ha : HV X cl Wo a da) (hb : HV X cl Wo b db) : HE X cl Wo (.BinOp a .Add b pos) (dBin fAdd da db) :=
  he_op (f := fAdd) (OpR.or op_add (OpR.or op_add_str (OpR.or op_catR op_catN))) (BinOk.or bAddI (BinOk.or bAddS (BinOk.or bCat bCatT))) ha hb
def repD (k : Int) (ds : List D) : List D := (List.replicate k.toNat ds).flatten
def fRepL : O → O → Option O
  | .lst os, .d (.int k) => match leafs os with
    | some ds => if -(2 ^ 63) ≤ k ∧ k < 2 ^ 63 ∧ ds.length * k.toNat ≤ sizeLine then some (.lst ((repD k ds).map .d)) else none
    | none => none
  | _, _ => none
theorem RDs.rep {ds : List D} {vs : List V} (h : RDs W H Z ds vs) : ∀ n : Nat, RDs W H Z (List.replicate n ds).flatten (List.replicate n vs).flatten
  | 0 => rfl
  | n + 1 => by
    rw [List.replicate_succ, List.replicate_succ, List.flatten_cons, List.flatten_cons]
    exact h.append (RDs.rep h n)
theorem bRepL : BinOk W fRepL rRep := by
  intro Z F P e T σ H a b z v u Q hf sa sb rs k
  unfold fRepL at hf
  split at hf
  · rename_i os i
    split at hf
    · rename_i ds hl
      split at hf
      · rename_i hb; cases hf
        obtain ⟨f, p, vs, f', ev, hh, ef, ro⟩ := sa
        rw [leafs_eq hl] at ro
        have rd := ro.rds
        exact ⟨p, i, vs, ev, sb.int, hh, hb.1, hb.2.1, by rw [← rd.len]; exact hb.2.2, fun c hc => k _ _ _ _ (Stp.allocF hc) (rs.newL (rd.rep _) hc)⟩
      · cases hf
    · cases hf
  · cases hf
def fRepT : O → O → Option O := fun a b => match a.tp, b with
  | some ds, .d (.int k) => if -(2 ^ 63) ≤ k ∧ k ≤ 1000 ∧ ds.length ≤ 1000 then some (.d (.tup (repD k ds))) else none
  | _, _ => none
theorem repD_same {k : Int} {ds : List D} (h : ds = [] ∨ k = 1) : repD k ds = ds := by
  unfold repD
  rcases h with h | h
  · subst h
    have : ∀ n : Nat, (List.replicate n ([] : List D)).flatten = [] := fun n => by
      induction n with
      | zero => rfl
      | succ n ih => rw [List.replicate_succ, List.flatten_cons, ih]; rfl
    exact this _
  · subst h
    show (List.replicate 1 ds).flatten = ds
    simp
theorem bRepT : BinOk W fRepT (rRepN W.K) := by
  intro Z F P e T σ H a b z v u Q hf sa sb rs k
  unfold fRepT at hf
  split at hf
  · rename_i ds i hx
    split at hf
    · rename_i hb; cases hf
      obtain ⟨p, vs, e1, h1, r1⟩ := sa.tuple hx
      refine ⟨p, i, vs, e1, sb.int, h1, hb.1, hb.2.1, by rw [← r1.len]; exact hb.2.2, fun hs => ?_, fun _ c o hc ho => k _ _ _ _ (Stp.alloc hc) (rs.newT (r1.rep _) hc ho)⟩
      have hs' : ds = [] ∨ i = 1 := hs.imp (fun e => by
        subst e
        exact List.length_eq_zero_iff.mp r1.len) id
      rw [repD_same hs'] at k
      have ha : a = .d (.tup ds) := by
        cases a with
        | d x => cases x with
          | tup es => cases hx; rfl
          | _ => cases hx
        | _ => cases hx
      subst ha
      exact k _ _ _ _ .refl (rs.push (by rw [← e1]; exact sa.d))
    · cases hf
  · cases hf
def fMul (a b : O) : Option O := match fMulS a b with
  | some z => some z
  | none => match fMulW a b with
    | some z => some z
    | none => match fRepL a b with
      | some z => some z
      | none => fRepT a b
theorem he_mul {a b : Expr} {da db} (ha : HV X cl Wo a da) (hb : HV X cl Wo b db) : HE X cl Wo (.BinOp a .Mult b pos) (dBin fMul da db) :=
  he_op (f := fMul) (OpR.or op_mul (OpR.or op_mulW (OpR.or op_rep op_repN))) (BinOk.or bMulS (BinOk.or bMulW (BinOk.or bRepL bRepT))) ha hb
theorem he_sub {a b : Expr} {da db} (ha : HV X cl Wo a da) (hb : HV X cl Wo b db) : HE X cl Wo (.BinOp a .Sub b pos) (dBin fSub da db) := he_op op_sub bSub ha hb
theorem he_mod {a b : Expr} {da db} (ha : HV X cl Wo a da) (hb : HV X cl Wo b db) : HE X cl Wo (.BinOp a .Mod b pos) (dBin fMod da db) := he_op op_mod bMod ha hb
theorem he_fdiv {a b : Expr} {da db} (ha : HV X cl Wo a da) (hb : HV X cl Wo b db) : HE X cl Wo (.BinOp a .FloorDiv b pos) (dBin fDiv da db) := he_op op_fdivW bDiv ha hb
theorem he_pow {a b : Expr} {da db} (ha : HV X cl Wo a da) (hb : HV X cl Wo b db) : HE X cl Wo (.BinOp a .Pow b pos) (dBin fPow da db) := he_op op_pow bPow ha hb
theorem ix_dk (hu : X.A.units + 1 < cLine) : IxR X (fun x y H Q => ∃ a v, x = .ref a ∧ DGet H a y (some v) ∧ Q v H) := by
  intro value slice pins s σ H x y v u Q I rx ry h hs
  obtain ⟨a, v', rfl, g, q⟩ := h
  obtain rfl : v = Value.ref a := rx
  exact PyProof.Rows.tail_any (dict_typeIs I g) PySem.F.slot_dict_getitem.lookup (d_getItem hu I g ry fun w' s3 I3 rw' => ⟨v', H, I3, rw', q⟩) hs
def fIx (a b : O) : Option O := match fIxL a b with
  | some z => some z
  | none => match fIxT a b with
    | some z => some z
    | none => match fIxS a b with
      | some z => some z
      | none => fDget a b
theorem he_sbs {a b : Expr} {da db} (hu : X.A.units + 1 < cLine) (ha : HV X cl Wo a da) (hb : HV X cl Wo b db) (hs : PlainIx b) : HE X cl Wo (.Subscript a b pos) (dBin fIx da db) :=
  he_ix (f := fIx) (IxR.or ix_list (IxR.or ix_tup (IxR.or ix_str (ix_dk hu)))) (BinOk.or bIxL (BinOk.or bIxT (BinOk.or bIxS bDget))) ha hb hs
def fSl (a : O) (l u : Option Int) : Option O := match fSlL a l u with
  | some z => some z
  | none => fSlT a l u
theorem SlOk.or {f g : O → Option Int → Option Int → Option O} {r r' : V → Option Int → Option Int → Hp → VK → Prop} (a : SlOk W f r) (b : SlOk W g r') : SlOk W (fun x l u => match f x l u with | some z => some z | none => g x l u) (fun x l u H Q => r x l u H Q ∨ r' x l u H Q) := by
  intro Z F P e T σ H x l u z v Q hf sa rs k
  cases q : f x l u with
  | some w => simp only [q] at hf; exact .inl (a Z F P e T σ H x l u w v Q q sa rs (by rw [Option.some.inj hf]; exact k))
  | none => simp only [q] at hf; exact .inr (b Z F P e T σ H x l u z v Q hf sa rs k)
theorem he_sl {ex : Expr} {lo hi : Option Expr} {p2 : Pos} {d dl dh} (he : HV X cl Wo ex d) (hl : HO_ X cl Wo lo dl) (hu : HO_ X cl Wo hi dh) : HE X cl Wo (.Subscript ex (.Slice lo hi none p2) pos) (dSl fSl d dl dh) :=
  he_slice (f := fSl) (SlR.or sl_list sl_tupN) (SlOk.or lSlL lSlT) he hl hu
theorem op_in_dk (hu : X.A.units + 1 < cLine) : OpR X (compareOp .In) (fun y x H Q => ∃ a o, x = .ref a ∧ DGet H a y o ∧ Q (.bl o.isSome) H) := by
  intro pins s σ H y x u v Q I ry rx h
  obtain ⟨a, o, rfl, g, q⟩ := h
  obtain rfl : v = Value.ref a := rx
  exact d_in hu I g ry fun s' I' => ⟨.bl o.isSome, H, I', rfl, q⟩
theorem op_notIn_dk (hu : X.A.units + 1 < cLine) : OpR X (compareOp .NotIn) (fun y x H Q => ∃ a o, x = .ref a ∧ DGet H a y o ∧ Q (.bl (!o.isSome)) H) := by
  intro pins s σ H y x u v Q I ry rx h
  obtain ⟨a, o, rfl, g, q⟩ := h
  obtain rfl : v = Value.ref a := rx
  exact d_notIn hu I g ry fun s' I' => ⟨.bl (!o.isSome), H, I', rfl, q⟩
def fInU (a b : O) : Option O := match fIn a b with
  | some z => some z
  | none => fDin a b
def fNinU (a b : O) : Option O := match fNin a b with
  | some z => some z
  | none => fDnin a b
def O.store (c ko o : O) : Option O := match c with
  | .lst os => match ko with
    | .d (.int k) => (ixN os.length k).map fun j => .lst (os.set j o)
    | _ => none
  | .dic ks xs => match keyO ko with
    | some k => if ks.length < sizeLine then some (.dic (putKs ks xs k o).1 (putKs ks xs k o).2) else none
    | none => none
  | _ => none
theorem PSet.or {t t' : TSet} (h : PSet X t) (h' : PSet X t') : PSet X (fun o i v H Q => t o i v H Q ∨ t' o i v H Q) := by
  intro pins s σ H o i v ov iv u Q I ro ri rv q
  exact q.elim (h pins s σ H o i v ov iv u Q I ro ri rv) (h' pins s σ H o i v ov iv u Q I ro ri rv)
def rSetA : TSet := fun o i v H Q => rSetL o i v H Q ∨ rSetD o i v H Q
theorem set_any (hu : X.A.units + 1 < cLine) : PSet X rSetA := PSet.or set_list (set_dict hu)
theorem RS.lput {os : List O} {a : Addr} {j : Nat} {o : O} {v : V} (r : RS W Z F P e ((.lst os, .ref a) :: (o, v) :: T) σ H) (hj : j < os.length) : ∃ vs : List V, H a = some (.lst vs) ∧ vs.length = os.length ∧
    Stp Z F H Z F (upd H a (.lst (vs.set j v))) ∧ RS W Z F P e ((.lst (os.set j o), .ref a) :: T) σ (upd H a (.lst (vs.set j v))) := by
  obtain ⟨f, ⟨a', vs, f', ev, hh, _, hc⟩, _⟩ := r.top
  cases ev
  refine ⟨vs, hh, hc.len.symm, ?_⟩
  have r' : RS W Z F P e (([(.lst os, .ref a), (o, v)] : Ts) ++ T) σ H := r
  refine RS.write (C' := [(.lst (os.set j o), .ref a)]) (o := .lst (vs.set j v)) r' trivial (fun fC hC => ?_) (fun kp fC hC nd => ?_)
  · obtain ⟨v', rr, f1, f2, ev, ef, ⟨a', us', f3, ev', _, e3, _⟩, _⟩ := hC
    cases ev
    cases ev'
    rw [ef, e3]
    exact List.mem_append_left _ List.mem_cons_self
  · obtain ⟨v', rr, f1, f2, ev, ef, ⟨a', us', f3, ev', hh', e3, hcs⟩, ho⟩ := hC
    cases ev
    cases ev'
    rw [hh] at hh'
    cases hh'
    have ho' := ros_one ho
    subst ef e3
    have nd1 := List.nodup_append.mp nd
    have nd3 := List.nodup_cons.mp nd1.1
    have na : ∀ b ∈ f3, b ≠ a := fun b hb q => nd3.1 (by rw [← q]; exact hb)
    have nb : ∀ b ∈ f2, b ≠ a := fun b hb q => nd1.2.2 a List.mem_cons_self b hb q.symm
    obtain ⟨g1, g2, g3, eg, pr⟩ := ROs.setO (hcs.keep kp _ _ _ fun b hb u hu => by rw [upd_ne (na b hb)]; exact hu) (List.getElem?_eq_getElem hj) (ho'.keep kp _ _ _ fun b hb u hu => by rw [upd_ne (nb b hb)]; exact hu)
    subst eg
    have pp : (a :: (g1 ++ g2 ++ g3) ++ f2).Perm (g2 ++ (a :: (g1 ++ f2 ++ g3))) := by
      refine (List.Perm.trans ?_ List.perm_middle.symm)
      refine List.Perm.cons a ?_
      show ((g1 ++ g2 ++ g3) ++ f2).Perm (g2 ++ (g1 ++ f2 ++ g3))
      simp only [List.append_assoc]
      refine (List.perm_append_comm_assoc g1 g2 _).trans ?_
      exact List.Perm.append_left _ (List.Perm.append_left _ List.perm_append_comm)
    have nd4 := pp.nodup nd
    exact ⟨a :: (g1 ++ f2 ++ g3), ROs.one ⟨a, vs.set j v, _, rfl, upd_same, rfl, pr⟩, nd4.sublist (List.sublist_append_right _ _), fun b hb => pp.mem_iff.mpr (List.mem_append_right _ hb)⟩
theorem RS.stO {c ko o c' : O} {w u v : V} {QQ : Hp → Prop} (r : RS W Z F P e ((c, w) :: (o, v) :: T) σ H) (hs : c.store ko o = some c') (sk : See W H Z ko u)
    (k : ∀ H', Stp Z F H Z F H' → RS W Z F P e ((c', w) :: T) σ H' → QQ H') : rSetA w u v H QQ := by
  unfold O.store at hs
  split at hs
  · rename_i os
    split at hs
    · rename_i i
      cases q : ixN os.length i with
      | none => rw [q] at hs; cases hs
      | some j =>
        rw [q] at hs; cases hs
        obtain ⟨f, ⟨a, vs, f', ev, _⟩, _⟩ := r.top
        subst ev
        obtain ⟨vs, hh, hl, s1, r1⟩ := r.lput (j := j) (ixN_seq q).2.1
        exact .inl ⟨a, vs, i, j, rfl, sk.int, hh, by rw [hl]; exact q, k _ s1 r1⟩
    · cases hs
  · rename_i ks xs
    split at hs
    · rename_i kk hk
      split at hs
      · rename_i hz; cases hs
        obtain ⟨f, ⟨a, kvs, f', ev, _⟩, _⟩ := r.top
        subst ev
        obtain ⟨kvs, hh, ek, s1, r1⟩ := r.dput (k := kk)
        exact .inr ⟨a, _, rfl, by rw [sk.key hk]; exact DPut.k (k := kk) hh (by rw [← ek, List.length_map] at hz; exact hz), k _ s1 r1⟩
      · cases hs
    · cases hs
  · cases hs
def tSub (i : Nat) (dk : En → Rs Ar) : Tg := fun o e => match slot e i with
  | some _ => match dk e with
    | .ok x e2 => match x.get e2, slot e2 i with
      | some ko, some c => match c.store ko o with
        | some c' => some (putS e2 i c')
        | none => none
      | _, _ => none
    | _ => none
  | none => none
theorem hg_sub {i : Nat} {x : Str} {p : Pos} {ss : List Nat} {ke : Expr} {dk : En → Rs Ar} (hu : X.A.units + 1 < cLine) (hx : PE X (.Name x p) (tVar i)) (hk : HV X cl Wo ke dk)
    (ha : ∀ v, assign (.Subscript (.Name x p) ke pos) X.env v = (do
      let ov ← holding [v] (eval (.Name x p) X.env)
      let iv ← holding [v, ov] (eval ke X.env)
      standAt pos
      holding [v, ov, iv] (setItem ov iv v)
      release [v, ov, iv] []) := by intro _; rfl) : HG X cl (.Subscript (.Name x p) ke pos) ss (tSub i dk) :=
  PG.imp (pg_sub hx hk (set_any hu) ha) fun v σ H Q ⟨Z, F, P, e, T, o, r, k⟩ => by
    unfold tSub at k
    cases q0 : slot e i with
    | none => rw [q0] at k; exact k.elim
    | some c0 =>
      rw [q0] at k
      simp only at k
      obtain ⟨w, fw, hw, hro, _⟩ := slot_get r.pop q0
      refine ⟨w, hw, Z, F, P, e, (o, v) :: T, r, ?_⟩
      cases qk : dk e with
      | bad => rw [qk] at k; exact k.elim
      | exc c ps e1 => rw [qk] at k; exact k.elim
      | ok x e2 =>
        rw [qk] at k
        simp only at k
        intro u Z2 F2 H2 s2 r2 a2
        cases g1 : x.get e2 with
        | none => rw [g1] at k; exact k.elim
        | some ko =>
          cases g2 : slot e2 i with
          | none => rw [g1, g2] at k; exact k.elim
          | some c =>
            rw [g1, g2] at k
            simp only at k
            cases g3 : c.store ko o with
            | none => rw [g3] at k; exact k.elim
            | some c' =>
              rw [g3] at k
              simp only at k
              obtain ⟨su, r3⟩ := see_tmp r2 a2 g1
              obtain ⟨s, hs, hc⟩ := slot_some g2
              obtain ⟨w', hw', r4⟩ := r3.lend hs hc
              rw [hw] at hw'
              cases hw'
              refine r4.stO g3 su fun H' s5 r5 => ?_
              have r6 := RS.back r5 (i := i) (s := s.lent) (get_set_self hs) (by cases s <;> rfl) hw
              rw [set_set, lent_put hc] at r6
              have e5 : putS e2 i c' = e2.set i (s.put c') := by unfold putS; rw [modS_eq hs]
              rw [e5] at k
              exact k σ Z2 F2 H' .refl (s2.trans s5) r6
end
end MX
namespace MX
open PySem L2
section
variable {X : Cx} {cl : Cl} {Wo : WX} {pos : Pos}
variable {W : Wd} {Z F Z' F' : Addr → Prop} {P P' : Nat → V} {e : En} {T : Ts} {σ : L2.St} {H H' : Hp} {Q : VK}
def seqD : D → Option (List D)
  | .lst ds => some ds
  | .tup ds => some ds
  | _ => none
def kindD : D → Bool
  | .tup _ => true
  | _ => false
theorem RD.seqD {d : D} {v : V} {ds : List D} (h : RD W H Z d v) (q : seqD d = some ds) : ∃ a vs, v = .ref a ∧ SqK W.K (kindD d) H a vs ∧ RDs W H Z ds vs := by
  cases d with
  | lst es =>
    have : es = ds := Option.some.inj q
    subst this
    obtain ⟨a, vs, e, hh, r⟩ := h
    exact ⟨a, vs, e, .inl hh.2, r⟩
  | tup es =>
    have : es = ds := Option.some.inj q
    subst this
    obtain ⟨a, vs, e, hh, r⟩ := h
    exact ⟨a, vs, e, hh.sq, r⟩
  | _ => cases q
def iAr (d : En → Rs (List O)) (f : List D → Option (List D)) : En → Rs (List D) := fun e => (d e).bind fun os e1 => match f (fzs os) with
  | some ds => .ok ds e1
  | none => .bad
theorem RS.freezeT {os : List O} {vs : List V} (hl : os.length = vs.length) (r : RS W Z F P e (os.zip vs ++ T) σ H) : ∃ Z' F', Stp Z F H Z' F' H ∧ RS W Z' F' P e (((fzs os).map O.d).zip vs ++ T) σ H ∧ RDs W H Z' (fzs os) vs := by
  obtain ⟨Z', F', s, r1, rd⟩ := r.freezeAll hl
  exact ⟨Z', F', s, ros_leaf rd r1, rd⟩
theorem rdAr {d : En → Rs (List O)} {f : List D → Option (List D)} {R : It → Hp → Prop} {K : List V → Hp → Prop} (h : rdI W Wo (iAr d f) σ H R)
    (hk : ∀ Z F P e T H1 es vs ds, f es = some ds → RDs W H1 Z es vs → RS W Z F P e ((es.map O.d).zip vs ++ T) σ H1 → (∀ J, ItOk W J ((es.map O.d).zip vs) ds → R J H1) → K vs H1) : rdA W Wo d σ H K := by
  obtain ⟨Z, F, P, e, T, r0, k⟩ := h
  refine ⟨Z, F, P, e, T, r0, ?_⟩
  unfold iAr at k
  cases qa : d e with
  | bad => rw [qa] at k; exact k
  | exc c ps e1 => rw [qa] at k; exact k
  | ok os e1 =>
    rw [qa] at k
    simp only [Rs.bind_ok] at k
    intro vs Z1 F1 H1 hl s1 r1
    cases qf : f (fzs os) with
    | none => rw [qf] at k; exact k.elim
    | some ds =>
      rw [qf] at k
      obtain ⟨Z2, F2, s2, r2, rd⟩ := r1.freezeT hl
      exact hk Z2 F2 P e1 T H1 (fzs os) vs ds qf rd r2 fun J hJ => k Z2 F2 H1 J _ (s1.trans s2) r2 hJ
def enumL : Nat → List D → List D
  | _, [] => []
  | n, d :: ds => .tup [.int (n : Int), d] :: enumL (n + 1) ds
theorem enumL_len : ∀ {n : Nat} {ds : List D}, (enumL n ds).length = ds.length
  | _, [] => rfl
  | n, d :: ds => by show (enumL (n + 1) ds).length + 1 = ds.length + 1; rw [enumL_len]
theorem enumL_get : ∀ {n : Nat} {ds : List D} {i : Nat} {d : D}, (enumL n ds)[i]? = some d → ∃ x, ds[i]? = some x ∧ d = .tup [.int ((n + i : Nat) : Int), x]
  | _, [], _, _, h => by simp [enumL] at h
  | n, x :: ds, 0, d, h => ⟨x, rfl, (Option.some.inj h).symm⟩
  | n, x :: ds, i + 1, d, h => by
    obtain ⟨y, h1, h2⟩ := enumL_get (n := n + 1) (ds := ds) (i := i) (d := d) h
    exact ⟨y, h1, by rw [h2, show n + 1 + i = n + (i + 1) by omega]⟩
def gEnum : List D → Option (List D)
  | [d] => (seqD d).map (enumL 0)
  | _ => none
theorem ite_ok {d : D} {a : Addr} {v : V} {ds : List D} (hv : v = .ref a) (hd : seqD d = some ds) : ItOk W (ItE W.K (kindD d) a) [(.d d, v)] (enumL 0 ds) := by
  intro i Z F P e T σ H r
  have r' : RS W Z F P e ((.d d, v) :: T) σ H := r
  obtain ⟨a', vs, ev, hq, rd⟩ := r'.topD.seqD hd
  rw [hv] at ev
  cases ev
  refine ⟨fun x hx => ?_, fun hle => ⟨vs, hq, by rw [hle, enumL_len, rd.len]⟩⟩
  obtain ⟨y, hy, rfl⟩ := enumL_get hx
  obtain ⟨w, hw, rw'⟩ := rd.get hy
  refine ⟨⟨vs, w, hq, hw⟩, fun x H' ⟨T', o', x', e1, e2, e0', e3, e4⟩ => ?_⟩
  have := e4 vs hq
  rw [hw] at this
  cases this
  subst e1 e3
  have e0 : ((0 + i : Nat) : Int) = (i : Int) := by simp
  rw [e0]
  exact ⟨Z, F, Stp.alloc e2, r.newT (ds := [.int (i : Int), y]) (vs := [.int (i : Int), w]) ⟨_, _, rfl, rfl, _, _, rfl, rw', rfl⟩ e2 e0'⟩
theorem hi_enum {a : Expr} {d} {p tpos : Pos} {elts : List Expr} {kk : Nat} (hg : Gl X "enumerate") (hm : X.mg "enumerate" = none) (ha : HA X cl Wo [a] d) (hs : starEach [a] X.env = [(false, eval a X.env)] := by rfl) :
    HI X cl Wo (.Tuple elts kk tpos) (.Call (.Name "enumerate" p) [a] [] pos) (iAr d gEnum) :=
  PI.imp (pi_e hg hm ha hs) fun σ H R h => rdAr h fun Z F P e T H1 es vs ds hf rd r k => by
    unfold gEnum at hf
    split at hf
    · rename_i d
      cases q : seqD d with
      | none => rw [q] at hf; cases hf
      | some ds0 =>
        rw [q] at hf; cases hf
        obtain ⟨v, rr, ev, h1, e2⟩ := rd
        have e2' : rr = [] := e2
        subst e2' ev
        obtain ⟨a, us, e3, hq, _⟩ := h1.seqD q
        exact ⟨kindD d, a, us, by rw [e3], hq, k _ (ite_ok e3 q)⟩
    · cases hf
def zipL : List D → List D → List D
  | a :: as, b :: bs => .tup [a, b] :: zipL as bs
  | _, _ => []
theorem zipL_len : ∀ {as bs : List D}, (zipL as bs).length = min as.length bs.length
  | [], bs => by simp [zipL]
  | a :: as, [] => by simp [zipL]
  | a :: as, b :: bs => by show (zipL as bs).length + 1 = min (as.length + 1) (bs.length + 1); rw [zipL_len]; omega
theorem zipL_get : ∀ {as bs : List D} {i : Nat} {d : D}, (zipL as bs)[i]? = some d → ∃ x y, as[i]? = some x ∧ bs[i]? = some y ∧ d = .tup [x, y]
  | [], bs, _, _, h => by simp [zipL] at h
  | a :: as, [], _, _, h => by simp [zipL] at h
  | a :: as, b :: bs, 0, d, h => ⟨a, b, rfl, rfl, (Option.some.inj h).symm⟩
  | a :: as, b :: bs, i + 1, d, h => zipL_get (as := as) (bs := bs) (i := i) h
def gZip : List D → Option (List D)
  | [d1, d2] => match seqD d1, seqD d2 with
    | some as, some bs => some (zipL as bs)
    | _, _ => none
  | _ => none
theorem itz_ok {d1 d2 : D} {a b : Addr} {as bs : List D} (h1 : seqD d1 = some as) (h2 : seqD d2 = some bs) : ItOk W (ItZ W.K (kindD d1) (kindD d2) a b) [(.d d1, .ref a), (.d d2, .ref b)] (zipL as bs) := by
  intro i Z F P e T σ H r
  have r' : RS W Z F P e ((.d d1, .ref a) :: (.d d2, .ref b) :: T) σ H := r
  obtain ⟨a', vs, ev, hq, rd⟩ := r'.topD.seqD h1
  cases ev
  obtain ⟨b', us, ev, hq2, rd2⟩ := r'.pop.topD.seqD h2
  cases ev
  refine ⟨fun x hx => ?_, fun hle => ⟨vs, us, hq, hq2, by rw [hle, zipL_len, rd.len, rd2.len]⟩⟩
  obtain ⟨y, z, hy, hz, rfl⟩ := zipL_get hx
  obtain ⟨w, hw, rw'⟩ := rd.get hy
  obtain ⟨w2, hw2, rw2⟩ := rd2.get hz
  refine ⟨⟨vs, us, w, w2, hq, hq2, hw, hw2⟩, fun x H' ⟨T', o', x', y', e1, e2, e0', e3, e4, e5⟩ => ?_⟩
  have := e4 vs hq
  rw [hw] at this
  cases this
  have := e5 us hq2
  rw [hw2] at this
  cases this
  subst e1 e3
  exact ⟨Z, F, Stp.alloc e2, r.newT (ds := [y, z]) (vs := [w, w2]) ⟨_, _, rfl, rw', _, _, rfl, rw2, rfl⟩ e2 e0'⟩
theorem hi_zip {a b : Expr} {d} {p tpos : Pos} {elts : List Expr} {kk : Nat} (hg : Gl X "zip") (hm : X.mg "zip" = none) (ha : HA X cl Wo [a, b] d)
    (hs : starEach [a, b] X.env = (false, eval a X.env) :: starEach [b] X.env := by rfl) (hpl : (backTo pos (starEach [b] X.env)).any (·.1) = false := by rfl) :
    HI X cl Wo (.Tuple elts kk tpos) (.Call (.Name "zip" p) [a, b] [] pos) (iAr d gZip) :=
  PI.imp (pi_z hg hm ha hs hpl) fun σ H R h => rdAr h fun Z F P e T H1 es vs ds hf rd r k => by
    unfold gZip at hf
    split at hf
    · rename_i d1 d2
      split at hf
      · rename_i as bs q1 q2; cases hf
        obtain ⟨v, rr, ev, h1, v2, rr2, ev2, h2, e2⟩ := rd
        have e2' : rr2 = [] := e2
        subst e2' ev2 ev
        obtain ⟨a, us, e3, hq, _⟩ := h1.seqD q1
        obtain ⟨b, us2, e4, hq2, _⟩ := h2.seqD q2
        subst e3 e4
        exact ⟨kindD d1, kindD d2, a, b, us, us2, rfl, hq, hq2, k _ (itz_ok q1 q2)⟩
      · cases hf
    · cases hf
def iRev (d : En → Rs O) : En → Rs (List D) := fun e => (d e).bind fun o e1 => match seqD o.fz with
  | some ds => .ok ds.reverse e1
  | none => .bad
def iAny (d : En → Rs O) : En → Rs (List D) := dOr (iSeq d) (iTupl d)
theorem hi_any {tg it : Expr} {d} (h : HE X cl Wo it d) : HI X cl Wo tg it (iAny d) := hi_alt (hi_list h) (hi_tup h)
def rgD (a b : Int) : List D := rangeD a (b - a).toNat
theorem rds_rg {a b : Int} : RDs W H Z (rgD a b) (rgV a b) := by
  unfold rgD rangeD rgV
  generalize (List.range (b - a).toNat) = l
  induction l with
  | nil => exact rfl
  | cons x l ih => exact ⟨_, _, rfl, rfl, ih⟩
def rgB (a b : Int) : Bool := inB a && inB b && decide ((b - a).toNat ≤ 2 ^ 24)
theorem rgB_of {a b : Int} (h : rgB a b = true) : RgOk a b := by
  unfold rgB at h
  rw [Bool.and_eq_true, Bool.and_eq_true] at h
  exact ⟨(inB_of h.1.1).1, (inB_of h.1.1).2, (inB_of h.1.2).1, (inB_of h.1.2).2, of_decide_eq_true h.2⟩
def rdRg (W : Wd) (Wo : WX) (d : En → Rs (Int × Int)) : L2.St → Hp → (Int → Int → Hp → Prop) → Prop := fun σ H R => ∃ Z F P e T, RS W Z F P e T σ H ∧ match d e with
  | .ok ab e' => ∀ Z' F' H', Stp Z F H Z' F' H' → RS W Z' F' P e' T σ H' → R ab.1 ab.2 H'
  | .exc c ps e' => XOk W Wo Z F P T σ H c ps e'
  | .bad => False
def HRg (X : Cx) (cl : Cl) (Wo : WX) (ex : Expr) (d : En → Rs (Int × Int)) : Prop := PRg X ex (rdRg (Cx.wd X cl) Wo d)
def rg1 (d : En → Rs Ar) : En → Rs (Int × Int) := fun e => (d e).bind fun x e1 => match x.get e1 with
  | some (.d (.int n)) => .ok (0, n) e1
  | _ => .bad
theorem PRg.imp {ex : Expr} {t t' : L2.St → Hp → (Int → Int → Hp → Prop) → Prop} (h : PRg X ex t) (k : ∀ σ H R, t' σ H R → t σ H R) : PRg X ex t' := fun pins s σ H R I q => h pins s σ H R I (k σ H R q)
theorem hrg_1 {a : Expr} {d} {p : Pos} (hg : Gl X "range") (hm : X.mg "range" = none) (ha : HV X cl Wo a d) (na : starEach [a] X.env = (false, eval a X.env) :: starEach [] X.env := by rfl) : HRg X cl Wo (.Call (.Name "range" p) [a] [] pos) (rg1 d) :=
  PRg.imp (prg_1 hg hm ha na) fun σ H R ⟨Z, F, P, e, T, r0, k⟩ => by
    refine ⟨Z, F, P, e, T, r0, ?_⟩
    unfold rg1 at k
    cases q : d e with
    | bad => rw [q] at k; exact k
    | exc c ps e1 => rw [q] at k; exact k
    | ok x e1 =>
      rw [q] at k
      simp only [Rs.bind_ok] at k
      intro v Z1 F1 H1 s1 r1 a1
      split at k
      · rename_i x e2 i h2
        split at h2
        · rename_i n hx
          cases h2
          obtain ⟨sv, r2⟩ := see_tmp r1 a1 hx
          exact ⟨n, sv.int, k Z1 F1 H1 s1 r2⟩
        · cases h2
      · rename_i h2
        split at h2 <;> cases h2
      · exact k.elim
def rg2 (d d2 : En → Rs Ar) : En → Rs (Int × Int) := fun e => (d e).bind fun x e1 => (d2 e1).bind fun y e2 => match x.get e2, y.get e2 with
  | some (.d (.int n)), some (.d (.int m)) => .ok (n, m) e2
  | _, _ => .bad
def dLRg (d : En → Rs (Int × Int)) : En → Rs O := fun e => (d e).bind fun ab e1 => if rgB ab.1 ab.2 = true then .ok (.lst ((rgD ab.1 ab.2).map .d)) e1 else .bad
def dTRg (d : En → Rs (Int × Int)) : En → Rs O := fun e => (d e).bind fun ab e1 => if rgB ab.1 ab.2 = true then .ok (.d (.tup (rgD ab.1 ab.2))) e1 else .bad
theorem he_listRg {ex : Expr} {d} {p : Pos} (hc : X.calm = true) (hg : Gl X "list") (hm : X.mg "list" = none) (h : HRg X cl Wo ex d) (na : starEach [ex] X.env = (false, eval ex X.env) :: starEach [] X.env := by rfl) : HE X cl Wo (.Call (.Name "list" p) [ex] [] pos) (dLRg d) :=
  PE.imp (pe_listRg hc hg hm h na) fun σ H Q ⟨Z, F, P, e, T, r0, k⟩ => by
    refine ⟨Z, F, P, e, T, r0, ?_⟩
    unfold dLRg at k
    cases q : d e with
    | bad => rw [q] at k; exact k
    | exc c ps e1 => rw [q] at k; exact k
    | ok ab e1 =>
      rw [q] at k
      simp only [Rs.bind_ok] at k
      intro Z1 F1 H1 s1 r1
      by_cases hb' : rgB ab.1 ab.2 = true
      · rw [if_pos hb'] at k
        exact ⟨rgB_of hb', fun p hp => k _ _ _ _ (s1.trans (Stp.allocF hp)) (r1.newL rds_rg hp)⟩
      · rw [if_neg hb'] at k; exact k.elim
theorem he_tupRg {ex : Expr} {d} {p : Pos} (hc : X.calm = true) (hg : Gl X "tuple") (hm : X.mg "tuple" = none) (h : HRg X cl Wo ex d) (na : starEach [ex] X.env = (false, eval ex X.env) :: starEach [] X.env := by rfl) : HE X cl Wo (.Call (.Name "tuple" p) [ex] [] pos) (dTRg d) :=
  PE.imp (pe_tupRgN hc hg hm h na) fun σ H Q ⟨Z, F, P, e, T, r0, k⟩ => by
    refine ⟨Z, F, P, e, T, r0, ?_⟩
    unfold dTRg at k
    cases q : d e with
    | bad => rw [q] at k; exact k
    | exc c ps e1 => rw [q] at k; exact k
    | ok ab e1 =>
      rw [q] at k
      simp only [Rs.bind_ok] at k
      intro Z1 F1 H1 s1 r1
      by_cases hb' : rgB ab.1 ab.2 = true
      · rw [if_pos hb'] at k
        exact ⟨rgB_of hb', fun p o hp ho => k _ _ _ _ (s1.trans (Stp.alloc hp)) (r1.newT rds_rg hp ho)⟩
      · rw [if_neg hb'] at k; exact k.elim
end
end MX
namespace MX
open PySem L2 PySem.Spec PyProof.Rows
section
variable {X : Cx} {cl : Cl} {Wo : WX} {pos : Pos}
variable {W : Wd} {Z F Z' F' : Addr → Prop} {P P' : Nat → V} {e : En} {T : Ts} {σ : L2.St} {H H' : Hp} {Q : VK}
def O.seqInts (o : O) : Option (List Int) := match o.items with
  | some ds => intsD ds
  | none => none
theorem ints_rds : ∀ {ns : List Int}, RDs W H Z (ns.map D.int) (ns.map V.int)
  | [] => rfl
  | n :: ns => ⟨_, _, rfl, rfl, ints_rds⟩
theorem mt_tupIdx : MtR X "tuple.index" (fun x xs H Q => ∃ (a : Addr) (ns : List Int) (i : Int), x = .ref a ∧ xs = [.int i] ∧ SqT X.K H a (ns.map V.int) ∧ i ∈ ns ∧ Q (.int (ns.idxOf i : Nat)) H) := by
  intro pins s σ H x xs v us Q I rx rv h
  obtain ⟨a, ns, i, rfl, rfl, hq, hm, q⟩ := h
  cases rx
  obtain ⟨u, rfl, ru⟩ := vals1 rv
  obtain ⟨t, rfl⟩ := ru
  obtain ⟨its, r, p, hz⟩ := I.tuple hq
  exact SeqAt.tuple_index_ints p r.ints hm ⟨.int (ns.idxOf i : Nat), H, I.tok _, ⟨_, rfl⟩, q⟩
theorem mt_lstIdx : MtR X "list.index" (fun x xs H Q => ∃ (a : Addr) (ns : List Int) (i : Int), x = .ref a ∧ xs = [.int i] ∧ SqL X.K H a (ns.map V.int) ∧ i ∈ ns ∧ Q (.int (ns.idxOf i : Nat)) H) := by
  intro pins s σ H x xs v us Q I rx rv h
  obtain ⟨a, ns, i, rfl, rfl, hq, hm, q⟩ := h
  cases rx
  obtain ⟨u, rfl, ru⟩ := vals1 rv
  obtain ⟨t, rfl⟩ := ru
  obtain ⟨its, r, p, hz⟩ := I.list hq
  rw [List.length_map] at hz
  exact SeqAt.list_index_ints p.isList r.ints hz hm ⟨.int (ns.idxOf i : Nat), H, I.tok _, ⟨_, rfl⟩, q⟩
def tyN (K : PySem.W.Frag) (T : String) (x : V) (H : Hp) : Prop := tyV K T x H ∨ (T = "tuple" ∧ ∃ a vs, x = .ref a ∧ TupAt K H a vs)
theorem tyN_is {pins : List (Addr × Obj)} {s : Shared} {T : String} {x : V} {v : Value} (I : Inv X pins σ H s) (r : RelV x v) (ty : tyN X.K T x H) :
    s.TypeIs v T ∧ ∀ a, v = .ref a → ∃ ob, s.heap.get? a = some ob ∧ ob.dict = none := by
  rcases ty with ty | ⟨rfl, a, vs, rfl, h⟩
  · exact tyV_is I r ty
  · obtain rfl : v = .ref a := r
    obtain ⟨h1, h2⟩ := h.nd I
    exact ⟨h1, fun b e => by cases e; exact h2⟩
def tBN (K : PySem.W.Frag) (T : String) (r : V → List V → Hp → VK → Prop) (to : TE) (t : TA) : TE := fun σ H Q => to σ H fun x H1 => tyN K T x H1 ∧ t σ H1 fun xs H2 => r x xs H2 Q
theorem pe_bn {o ex : Expr} {es : List Expr} {to : TE} {t : TA} {name : Str} {apos cpos : Pos} {T id : String} {r : V → List V → Hp → VK → Prop} (pa : PlainAttrs T) (slot : Slot T name id) (hty : typeOf (.builtin id) = pure (.type "method_descriptor")) (hm : MtR X id r) (ho : PE X o to) (ha : PA X (ex :: es) t)
    (hbase : attributeBase o name X.env (eval o X.env) = eval o X.env := by rfl)
    (hfew : ((backTo cpos (starEach (ex :: es) X.env)).all (fun x => !x.1) && (backToKw cpos (keywordEach [] X.env)).all (fun x => x.1.isSome)
      && decide ((ex :: es).length + ([] : List Keyword).length + (if ([] : List Keyword).isEmpty then 0 else 1) < 30)) = true := by rfl)
    (hline : (apos.endLine == cpos.line) = true := by rfl) (hs : starEach (ex :: es) X.env = (false, eval ex X.env) :: starEach es X.env := by rfl) (hplain : (backTo cpos (starEach es X.env)).any (·.1) = false := by rfl) :
    PE X (.Call (.Attribute o name apos) (ex :: es) [] cpos) (tBN X.K T r to t) := by
  refine ⟨fun pins s σ H Q I h => ?_⟩
  refine wpAny_Call_method_late hbase hfew hline rfl (thn (ho.run pins s σ H _ I h) fun v s1 ⟨x, H1, I1, r1, ty, q1⟩ => ?_)
  obtain ⟨h1, h2⟩ := tyN_is I1 r1 ty
  refine ⟨T, id, pa, slot, hty, h1, h2, ?_⟩
  have hA := ha.run cpos pins s1 σ H1 _ I1 q1
  rw [hs] at hA ⊢
  refine Calls.callWith_builtin (by show (false || (backTo cpos (starEach es X.env)).any (·.1)) = false; rw [hplain] <;> rfl) (Calls.evalArgs_plain ?_)
  exact thn hA fun us s2 ⟨vs, H2, I2, r2, q2⟩ => hm pins s2 σ H2 x vs v us Q I2 r1 r2 q2
def O.ty : O → String
  | .lst _ => "list"
  | .dic _ _ => "dict"
  | .d (.lst _) => "list"
  | .d (.tup _) => "tuple"
  | .d (.dic _ _) => "dict"
  | .d (.str _) => "str"
  | .d (.int _) => "int"
  | _ => ""
theorem See.ty {o : O} {v : V} {T : String} (h : See W H Z o v) (q : o.ty = T) (hne : T ≠ "") (hd : T ≠ "dict") : tyN W.K T v H := by
  subst q
  cases o with
  | lst os => obtain ⟨f, a, vs, f', rfl, hh, _⟩ := h; exact .inl (.inl ⟨rfl, vs, .inl (.inl hh)⟩)
  | dic ks xs => exact absurd rfl hd
  | obj c ns xs => exact absurd rfl hne
  | d x =>
    cases x with
    | lst xs => obtain ⟨a, vs, rfl, hh, _⟩ := h.d; exact .inl (.inl ⟨rfl, vs, .inl hh.2⟩)
    | tup xs => obtain ⟨a, vs, rfl, hh, _⟩ := h.d; exact .inr ⟨rfl, a, vs, rfl, hh⟩
    | str s => rw [h.str]; exact .inl rfl
    | int s => rw [h.int]; exact .inl rfl
    | dic ks xs => exact absurd rfl hd
    | _ => exact absurd rfl hne
def MethOk (W : Wd) (f : O → List O → Option O) (r : V → List V → Hp → VK → Prop) : Prop :=
  ∀ Z F P e T σ H a os z v vs Q, f a os = some z → See W H Z a v → Sees W H Z os vs → RS W Z F P e T σ H → (∀ w Z' F' H', Stp Z F H Z' F' H' → RS W Z' F' P e ((z, w) :: T) σ H' → Q w H') → r v vs H Q
def dMeth (T : String) (f : O → List O → Option O) (da : En → Rs Ar) (d : En → Rs (List Ar)) : En → Rs O := fun e => (da e).bind fun x e1 => match x.get e1 with
  | some a0 => if a0.ty = T then (d e1).bind fun xs e2 => match x.get e2, gets e2 xs with
    | some a, some os => fin (f a os) e2
    | _, _ => .bad
    else .bad
  | none => .bad
theorem rdMeth {Tn : String} {f} {r : V → List V → Hp → VK → Prop} {da : En → Rs Ar} {d : En → Rs (List Ar)} (hf : MethOk W f r) (hne : Tn ≠ "") (hd : Tn ≠ "dict") (h : rdE W Wo (dMeth Tn f da d) σ H Q) :
    tBN W.K Tn r (rdV W Wo da) (rdVs W Wo d) σ H Q := by
  obtain ⟨Z, F, P, e, T, r0, k⟩ := h
  refine ⟨Z, F, P, e, T, r0, ?_⟩
  unfold dMeth at k
  cases qa : da e with
  | bad => rw [qa] at k; exact k
  | exc c ps e' => rw [qa] at k; exact k
  | ok x e1 =>
    intro v Z1 F1 H1 s1 r1 a1
    rw [qa] at k
    simp only [Rs.bind_ok] at k
    cases g0 : x.get e1 with
    | none => rw [g0] at k; exact k.elim
    | some a0 =>
      rw [g0] at k
      simp only at k
      by_cases ht : a0.ty = Tn
      · rw [if_pos ht] at k
        obtain ⟨sa0, _⟩ := see_tmp r1 a1 g0
        refine ⟨sa0.ty ht hne hd, Z1, F1, P, e1, x.tmp v ++ T, r1, ?_⟩
        cases qb : d e1 with
        | bad => rw [qb] at k; exact k
        | exc c ps e' => rw [qb] at k; exact XOk.pops (XOk.step s1 k)
        | ok xs e2 =>
          rw [qb] at k
          simp only [Rs.bind_ok] at k
          intro vs Z2 F2 H2 hl s2 r2 a2
          cases gx : x.get e2 with
          | none => rw [gx] at k; exact k.elim
          | some a =>
            cases gy : gets e2 xs with
            | none => rw [gx, gy] at k; exact k.elim
            | some os =>
              rw [gx, gy] at k
              obtain ⟨ss, r3⟩ := sees_tmps hl r2 a2 gy
              obtain ⟨sa, r4⟩ := see_tmp r3 a1 gx
              cases qz : f a os with
              | none => simp only [fin, qz] at k; exact k.elim
              | some z =>
                simp only [fin, qz] at k
                exact hf Z2 F2 P e2 T σ H2 a os z v vs Q qz sa ss r4 fun w Z' F' H' s3 r5 => k w Z' F' H' ((s1.trans s2).trans s3) r5
      · rw [if_neg ht] at k; exact k.elim
theorem he_meth {o ex : Expr} {es : List Expr} {name : Str} {apos cpos : Pos} {T id : String} {r : V → List V → Hp → VK → Prop} {f} {da d} (hf : MethOk (Cx.wd X cl) f r) (pa : PlainAttrs T) (slot : Slot T name id) (hty : typeOf (.builtin id) = pure (.type "method_descriptor")) (hm : MtR X id r) (ho : HV X cl Wo o da) (ha : HVs X cl Wo (ex :: es) d)
    (hne : T ≠ "" := by decide) (hd : T ≠ "dict" := by decide)
    (hbase : attributeBase o name X.env (eval o X.env) = eval o X.env := by rfl)
    (hfew : ((backTo cpos (starEach (ex :: es) X.env)).all (fun x => !x.1) && (backToKw cpos (keywordEach [] X.env)).all (fun x => x.1.isSome)
      && decide ((ex :: es).length + ([] : List Keyword).length + (if ([] : List Keyword).isEmpty then 0 else 1) < 30)) = true := by rfl)
    (hline : (apos.endLine == cpos.line) = true := by rfl) (hs : starEach (ex :: es) X.env = (false, eval ex X.env) :: starEach es X.env := by rfl) (hplain : (backTo cpos (starEach es X.env)).any (·.1) = false := by rfl) :
    HE X cl Wo (.Call (.Attribute o name apos) (ex :: es) [] cpos) (dMeth T f da d) :=
  PE.imp (pe_bn pa slot hty hm ho ha hbase hfew hline hs hplain) fun σ H Q h => rdMeth hf hne hd h
def fIndex (a : O) (os : List O) : Option O := match a.seqInts, os with
  | some ns, [.d (.int i)] => if i ∈ ns then some (.d (.int (ns.idxOf i : Nat))) else none
  | _, _ => none
def fTupIdx (a : O) (os : List O) : Option O := if a.ty = "tuple" then fIndex a os else none
def fLstIdx (a : O) (os : List O) : Option O := if a.ty = "list" then fIndex a os else none
theorem mTupIndex : MethOk W fTupIdx (fun x xs H Q => ∃ (a : Addr) (ns : List Int) (i : Int), x = .ref a ∧ xs = [.int i] ∧ SqT W.K H a (ns.map V.int) ∧ i ∈ ns ∧ Q (.int (ns.idxOf i : Nat)) H) := by
  intro Z F P e T σ H a os z v vs Q hf sa ss rs k
  unfold fTupIdx at hf
  split at hf
  · rename_i ht
    unfold fIndex at hf
    split at hf
    · rename_i ns i hn
      split at hf
      · rename_i hm; cases hf
        obtain ⟨u, rfl, su⟩ := ss.one
        unfold O.seqInts at hn
        cases q : a.items with
        | none => rw [q] at hn; cases hn
        | some ds =>
          rw [q] at hn
          cases a with
          | d x =>
            cases x with
            | tup es =>
              obtain ⟨p, us, e1, h1, r1⟩ := sa.tuple (ds := ds) q
              have eu := intsD_rds hn r1
              subst eu
              exact ⟨p, ns, i, e1, by rw [su.int], h1, hm, done_leaf (x := .int (ns.idxOf i : Nat)) rs (fun _ _ => rfl) k⟩
            | _ => exact absurd ht (by simp [O.ty])
          | _ => exact absurd ht (by simp [O.ty])
      · cases hf
    · cases hf
  · cases hf
theorem mLstIndex : MethOk W fLstIdx (fun x xs H Q => ∃ (a : Addr) (ns : List Int) (i : Int), x = .ref a ∧ xs = [.int i] ∧ SqL W.K H a (ns.map V.int) ∧ i ∈ ns ∧ Q (.int (ns.idxOf i : Nat)) H) := by
  intro Z F P e T σ H a os z v vs Q hf sa ss rs k
  unfold fLstIdx at hf
  split at hf
  · rename_i ht
    unfold fIndex at hf
    split at hf
    · rename_i ns i hn
      split at hf
      · rename_i hm; cases hf
        obtain ⟨u, rfl, su⟩ := ss.one
        unfold O.seqInts at hn
        cases q : a.items with
        | none => rw [q] at hn; cases hn
        | some ds =>
          rw [q] at hn
          have fin : ∀ (q' : a.ls = some ds), ∃ (a : Addr) (ns : List Int) (i' : Int), v = .ref a ∧ [u] = [.int i'] ∧ SqL W.K H a (ns.map V.int) ∧ i' ∈ ns ∧ Q (.int (ns.idxOf i' : Nat)) H := fun q' => by
            obtain ⟨p, us, e1, h1, r1⟩ := sa.list (ds := ds) q'
            have eu := intsD_rds hn r1
            subst eu
            exact ⟨p, ns, i, e1, by rw [su.int], h1, hm, done_leaf (x := .int (ns.idxOf i : Nat)) rs (fun _ _ => rfl) k⟩
          cases a with
          | lst os => exact fin q
          | d x =>
            cases x with
            | lst es => exact fin q
            | _ => exact absurd ht (by simp [O.ty])
          | _ => exact absurd ht (by simp [O.ty])
      · cases hf
    · cases hf
  · cases hf
end
end MX
namespace MX
open PySem L2
section
variable {X : Cx} {cl : Cl} {Wo : WX} {pos : Pos}
variable {W : Wd} {Z F Z' F' : Addr → Prop} {P P' : Nat → V} {e : En} {T : Ts} {σ : L2.St} {H H' : Hp} {Q : VK}
def lc2L (vs : List Nat) (t : Tg) (c : En → Rs Bool) (it1 : En → Rs (List D)) (vs1 : List Nat) (t1 : Tg) (c1 : En → Rs Bool) (el : En → Rs O) : List D → List O → En → Rs O
  | [], acc, e => .ok (.lst acc) e
  | d :: ds, acc, e => match t (.d d) e with
    | none => .bad
    | some e1 => match c e1 with
      | .ok true e2 => match it1 e2 with
        | .ok ds1 e3 => match lcL vs1 t1 c1 el ds1 acc (wipeE e3 vs1) with
          | .ok (.lst acc') e4 => lc2L vs t c it1 vs1 t1 c1 el ds acc' (wipeE e4 vs)
          | _ => .bad
        | _ => .bad
      | .ok false e2 => lc2L vs t c it1 vs1 t1 c1 el ds acc (wipeE e2 vs)
      | _ => .bad
def dLc2 (it : En → Rs (List D)) (vs : List Nat) (t : Tg) (c : En → Rs Bool) (it1 : En → Rs (List D)) (vs1 : List Nat) (t1 : Tg) (c1 : En → Rs Bool) (el : En → Rs O) : En → Rs O := fun e => (it e).bind fun ds e1 => lc2L vs t c it1 vs1 t1 c1 el ds [] (wipeE e1 vs)
end
end MX
namespace MX
open PySem L2 PySem.Spec PyProof.Rows
section
variable {X : Cx} {cl : Cl} {Wo : WX} {pos : Pos}
variable {W W' : Wd} {Z F Z' F' : Addr → Prop} {P P' : Nat → V} {e : En} {T : Ts} {σ : L2.St} {H H' : Hp} {Q : VK}
theorem pmk_own0 {C : Addr} {bmB : List Value} {B newId initId : String} {x : Str} {p pos : Pos} (F : ExcBaseFacts B newId initId bmB) (q : PySem.W.excIn X.K C bmB newId = true) (gC : X.mg x = some (.ref C)) (kC : PySem.W.keepIn X.K (.ref C) = true) (r : Raises X (.ref C)) (hg : Gl X x)
    (hdb : (x == ("__debug__" : Str)) = false := by decide) : PMk X (.Call (.Name x p) [] [] pos) (fun _ H Q => Q (.ref C) none H) := by
  intro pins s σ H Q I h
  refine wpAny_Call_Name_kw (ld_glob I hg gC ?_ hdb)
  refine PySem.W.callWith_K0 I.kIn kC ?_
  show wpAny _ _ (call (.ref C) []) _ _ _
  obtain ⟨bm, N, nm, qn, bs, hdct, sn, sub, ab, col, dd, k0, k1, k2, k3, k5, mN, hC, hN, hni, T⟩ := exc_obj I.kIn q
  refine wpAny_call_exc_subT F T hC hN hni (fun h' e hm => ?_) (Nat.zero_le _)
  exact mk_of I hm r h (I.hok.gone hm.new)
def sRaise (c : String) : En → Out := fun e => .exc c [] e
theorem hs_raise {ex : Expr} {C : Addr} {c : String} (hc : X.calm = true) (tk : Takes X Wo) (he : PMk X ex (fun _ H Q => Q (.ref C) none H)) (hcl : cl.f c = some C) : HS X cl Wo (.Raise (some ex) none pos) (sRaise c) :=
  PS.imp (ps_raise hc tk he) fun D σ H ⟨Z, F, P, e, T, r, k⟩ => k σ Z F H C none hcl (.inl ⟨rfl, rfl⟩) .refl r
def sTryM (db : En → Out) : List ((String → Option Bool) × (String → En → Out)) → En → Out
  | hs => fun e => match db e with
    | .exc c ps e1 => go c ps e1 hs
    | r => r
where go (c : String) (ps : List (Str × D)) (e1 : En) : List ((String → Option Bool) × (String → En → Out)) → Out
  | [] => .exc c ps e1
  | (sub, hd) :: r => match sub c with
    | some true => match hd c e1 with
      | .exc _ _ _ => .bad
      | o => o
    | some false => go c ps e1 r
    | none => .bad
inductive HHs (X : Cx) (cl : Cl) : List ExceptHandler → List ((String → Option Bool) × (String → En → Out)) → Prop
  | nil : HHs X cl [] []
  | cons {x : Str} {cv : Value} {b₀ : Stmt} {suite : List Stmt} {np pos' : Pos} {hds : List ExceptHandler} {l : List ((String → Option Bool) × (String → En → Out))} {sub : String → Option Bool} {hd : String → En → Out} (hc : Names X x cv)
      (hsub : ∀ c C b, cl.f c = some C → sub c = some b → PySem.W.exmOne X.K (.ref C) cv = some b)
      (hh : ∀ (c : String) (C a : Addr) (oe : Obj) (d : Option Addr) (pn : List (Addr × Obj)), cl.f c = some C → Zc (.ref C) d oe → (∃ vs, oe.data = .fields vs) → HSs (X.suite a ((a, oe) :: pn)) cl Wf (b₀ :: suite) (hd c)) (r : HHs X cl hds l) :
      HHs X cl (.ExceptHandler (some (.Name x np)) none (b₀ :: suite) pos' :: hds) ((sub, hd) :: l)
theorem hhs_of {hds : List ExceptHandler} {l} (h : HHs X cl hds l) : ∃ l' : List (Value × (Addr → Value → Option Addr → TS)), HdsOk X hds l' ∧
    ∀ (DE : Ends) (Z F : Addr → Prop) (P : Nat → V) (T : Ts) (H0 : Hp) (c : String) (ps : List (Str × D)) (e1 : En), PostS (Cx.wd X cl) Wo Z F P T H0 DE (sTryM.go c ps e1 l) → ∀ σ, XOk (Cx.wd X cl) (wMany X.K Wo DE l') Z F P T σ H0 c ps e1 := by
  induction h with
  | nil => exact ⟨[], .nil, fun D Z F P T H0 c ps e1 k => k⟩
  | @cons x cv b₀ suite np pos' hds l sub hd hc hsub hh r ih =>
    obtain ⟨l', h1, h2⟩ := ih
    refine ⟨(cv, fun a cls d D σ H => ∃ c C, cls = .ref C ∧ cl.f c = some C ∧ rdS (Cx.wd X cl) Wf (hd c) D σ H) :: l', .cons hc (fun a oe cls d pn hz hfl => ⟨fun pins s σ H D I ⟨c, C, ec, hcl, q⟩ => (hh c C a oe d pn hcl (by rw [← ec]; exact hz) hfl).run pins s σ H D I q⟩) h1, ?_⟩
    intro D Z F P T H0 c ps e1 k σ Z1 F1 H1 C dd hcl py s1 r1
    unfold sTryM.go at k
    cases q2 : sub c with
    | none => rw [q2] at k; exact k.elim
    | some b =>
      rw [q2] at k
      refine ⟨b, hsub c C b hcl q2, fun hb a ha => ?_, fun hb => ?_⟩
      · subst hb
        simp only at k
        refine ⟨c, C, rfl, hcl, Z1, F1, P, e1, T, r1, ?_⟩
        have k2 := PostS.step s1 k
        cases q3 : hd c e1 with
        | exc c ps e2 => rw [q3] at k2; exact k2.elim
        | nx e2 => rw [q3] at k2; exact k2
        | rt o e2 => rw [q3] at k2; exact k2
        | bk e2 => rw [q3] at k2; exact k2
        | ct e2 => rw [q3] at k2; exact k2
        | bad => rw [q3] at k2; exact k2
      · subst hb
        exact h2 D Z F P T H0 c ps e1 k σ Z1 F1 H1 C dd hcl py s1 r1
theorem hs_try {body : List Stmt} {h₀ : ExceptHandler} {hds : List ExceptHandler} {l} {db : En → Out} (hs : X.stack = X.env :: X.outer) (hf : X.env.frame = some X.env.locals) (tk : Takes X Wo)
    (hb : ∀ (W' : WX) (pn : List (Addr × Obj)) (xe : Value → Shared → Prop), Takes (X.tr pn xe) W' → PassesOwn (model X.prog X.w) X.A X.env xe → HSs (X.tr pn xe) cl W' body db)
    (hh : HHs X cl (h₀ :: hds) l) : HS X cl Wo (.Try body (h₀ :: hds) [] [] pos) (sTryM db l) := by
  obtain ⟨l', hok, hw⟩ := hhs_of (Wo := Wo) hh
  exact PS.imp (ps_try_many (tb := fun W' => rdS (Cx.wd X cl) W' db) hs hf tk hb hok) fun D σ H ⟨Z, F, P, e, T, r, k⟩ => by
    refine ⟨Z, F, P, e, T, r, ?_⟩
    unfold sTryM at k
    cases q : db e with
    | nx e1 => rw [q] at k; exact k
    | rt o e1 => rw [q] at k; exact k
    | bk e1 => rw [q] at k; exact k
    | ct e1 => rw [q] at k; exact k
    | bad => rw [q] at k; exact k
    | exc c ps e1 =>
      rw [q] at k
      exact hw D Z F P T H c ps e1 k
end
end MX
namespace MX
open PySem L2
section
variable {X : Cx} {cl : Cl} {Wo : WX} {pos : Pos}
variable {W W' : Wd} {Z F Z' F' : Addr → Prop} {P P' : Nat → V} {e : En} {T : Ts} {σ : L2.St} {H H' : Hp} {Q : VK}
def aAll : List (En → Rs O) → En → Rs (List O)
  | [] => aNil
  | d :: ds => aCons d (aAll ds)
def dDisp (ks : List Key) (ds : List (En → Rs O)) : En → Rs O := fun e => (aAll ds e).bind fun os e1 => .ok (.dic ks os) e1
end
end MX
namespace MX
open PySem L2 PySem.Spec PyProof.Rows
section
variable {X : Cx} {cl : Cl} {Wo : WX} {pos : Pos}
variable {W W' : Wd} {Z F Z' F' : Addr → Prop} {P P' : Nat → V} {e : En} {T : Ts} {σ : L2.St} {H H' : Hp} {Q : VK}
theorem CallOk.or {f g : List O → Option O} {r r' : List V → Hp → VK → Prop} (a : CallOk W f r) (b : CallOk W g r') : CallOk W (fun xs => match f xs with | some z => some z | none => g xs) (fun xs H Q => r xs H Q ∨ r' xs H Q) := by
  intro Z F P e T σ H os z vs Q hf ss rs k
  cases q : f os with
  | some w => simp only [q] at hf; exact .inl (a Z F P e T σ H os w vs Q q ss rs (by rw [Option.some.inj hf]; exact k))
  | none => simp only [q] at hf; exact .inr (b Z F P e T σ H os z vs Q hf ss rs k)
def fLenD : O → Option O
  | .dic ks xs => some (.d (.int ks.length))
  | _ => none
theorem cLenD : CallOk W (on1 fLenD) (fun xs H Q => ∃ a kvs, xs = [V.ref a] ∧ H a = some (.dK kvs) ∧ Q (.int kvs.length) H) := by
  intro Z F P e T σ H os z vs Q hf ss rs k
  obtain ⟨o, rfl, hg⟩ := on1_some hf
  clear hf
  obtain ⟨v, rfl, s⟩ := ss.one
  unfold fLenD at hg
  split at hg
  · rename_i ks xs
    cases hg
    obtain ⟨f, a, kvs, f', e, hh, e1, _⟩ := s
    refine ⟨a, kvs, by rw [e], hh, ?_⟩
    have : kvs.length = ks.length := by rw [← e1, List.length_map]
    rw [this]
    exact done_leaf (x := .int ks.length) rs (fun _ _ => rfl) k
  · cases hg
def fLenU (xs : List O) : Option O := match on1 fLen xs with
  | some z => some z
  | none => match on1 fLenS xs with
    | some z => some z
    | none => on1 fLenD xs
theorem cLenU : CallOk W fLenU (fun xs H Q => (∃ p ys, xs = [V.ref p] ∧ (SqL W.K H p ys ∨ SqT W.K H p ys) ∧ Q (.int ys.length) H) ∨ ((∃ z, xs = [V.str z] ∧ z.length ≤ sizeLine ∧ Q (.int z.length) H) ∨ ∃ a kvs, xs = [V.ref a] ∧ H a = some (.dK kvs) ∧ Q (.int kvs.length) H)) :=
  CallOk.or cLen (CallOk.or cLenS cLenD)
theorem he_ty {x : Str} {n : String} (hg : Gl X x) (hm : X.mg x = none) (hv : bootBuiltins x = some (.type n)) (hn : x ≠ "__name__" := by decide) (hd : (x == ("__debug__" : Str)) = false := by decide) : HE X cl Wo (.Name x pos) (dC (.ty n)) :=
  he_C (pe_bltn (v := .ty n) hg hm hv rfl hn hd) fun _ _ => rfl
theorem KB.of {K : PySem.W.Frag} {x qual : Str} {st : Stmt} {f : Addr} {fd : FuncData} {ps ks : List Str} {n0 n1 : Nat} {p : List Nat} (Fn : Fun K x qual st f fd)
    (h : ∀ (kV doc pm : Value) (an : Option Addr) (cdv ct : Value) (us ws : List Value), us.length = n0 → ws.length = n1 → bindArgs (PySem.W.fnOf x qual (defArgs st) (defBody st) (defScope st) .none kV doc pm an cdv ct) ⟨us, ks.zip ws⟩ = pure (ps.zip (ord p (us ++ ws))))
    (pm : p.Perm (List.range (n0 + n1))) : KB K fd ps ks n0 n1 p := by
  obtain ⟨oc, od, kV, doc, pm', an, cdv, ct, osl, rfl, lk, hcd⟩ := Fn.ex
  exact ⟨fun s us ws _ h0 h1 => .of_eq (h kV doc pm' an cdv ct us ws h0 h1), pm⟩
theorem FnOk.bad {Pg : Program} {w : World} {K : PySem.W.Frag} {mg : Str → Option Value} {base : Heap} {Wd0 : Wd} {x qual : Str} {st : Stmt} {f : Addr} {fd : FuncData} {N ps : List Str} {k n : Nat} (Fn : Fun K x qual st f fd) (S : FnScope N ps (defScope st)) :
    FnOk Pg w K mg base (L2.CX Pg w) k f fd ps (spD Wd0 n fun _ => .bad) :=
  ⟨fun vs H Q E ⟨_, _, _, _, _, _, _, h⟩ => h.elim, fun A outer s H args us vs Q E hr he hb hv ⟨_, _, _, _, _, _, _, h⟩ => h.elim⟩
end
end MX
namespace MX
open PySem L2 PySem.Spec PyProof.Rows
def noList (K : PySem.W.Frag) : Bool := K.all fun p => p.2.cls != .type "list"
theorem lookup_mem {K : PySem.W.Frag} {a : Addr} {o : Obj} (h : K.lookup a = some o) : (a, o) ∈ K := by
  induction K with
  | nil => cases h
  | cons p K ih =>
    obtain ⟨b, u⟩ := p
    rw [List.lookup_cons] at h
    by_cases q : a == b
    · rw [q] at h
      cases h
      rw [beq_iff_eq.mp q]
      exact List.mem_cons_self
    · have : (a == b) = false := by simpa using q
      rw [this] at h
      exact List.mem_cons_of_mem _ (ih h)
theorem rd_of {K : PySem.W.Frag} {H : Hp} {a : Addr} {xs : List V} (nl : noList K = true) (h : SqL K H a xs) : Rd H a (.lst xs) := by
  rcases h with h | ⟨o, its, n, hk, hc, _⟩
  · exact h
  · have := List.all_eq_true.mp nl _ (lookup_mem hk)
    rw [hc] at this
    cases this
def spLaw (K : PySem.W.Frag) : Sp := fun vs H Q _ => ∃ (a : Addr) (ns : List Int), vs = [.ref a] ∧ SqL K H a (ns.map V.int) ∧ ns.length ≤ 63 ∧ ∀ H', Q (.bl true) H'
theorem top_imp {K : PySem.W.Frag} {cf : String → Option Addr} {den : Den} (nl : noList K = true) (h : ∀ ns : List Int, ns.length ≤ 63 → ∃ ps, den [.d (.lst (ns.map D.int))] = .ok (.d (.bl true)) ps) (vs : List V) (H : Hp) (Q : VK) (E : XK) (q : spLaw K vs H Q E) :
    spD ⟨K, cf, none⟩ 1 den vs H Q E := by
  obtain ⟨a, ns, rfl, hS, hl, k⟩ := q
  have hr := rd_of nl hS
  obtain ⟨ps, hd⟩ := h ns hl
  have hn : H a ≠ none := by
    rcases hr with hr | ⟨o, hr⟩
    · rw [hr]; simp
    · rw [hr]; simp
  refine ⟨fun b => b = a, fun _ => False, fun _ => .non, [.d (.lst (ns.map D.int))], ⟨⟨[], [], ⟨rfl, rfl⟩, ⟨.ref a, [], [], [], rfl, rfl, ⟨⟨a, _, rfl, ⟨rfl, hr⟩, ints_rds⟩, rfl⟩, rfl, rfl⟩, List.nodup_nil, fun _ h => nomatch h⟩, fun _ h => h.elim, fun b hb => by rw [hb]; exact hn, fun _ h => h.elim, fun i s h => by simp at h, fun i b h => by cases h⟩, rfl, rfl, ?_⟩
  rw [hd]
  exact fun v Z' F' H' P' s r => by
    have : v = .bl true := r.topD
    rw [this]
    exact k H'
end MX
namespace MX
open PySem L2
end MX
namespace MX
open PySem L2
end MX
namespace MX
open PySem L2
end MX
namespace MX
open PySem L2
end MX
namespace MX
open PySem L2
end MX
namespace MX
open PySem L2
end MX
namespace MX
open PySem L2
end MX
namespace MX
open PySem L2
def boolsD : List D → Option (List Bool)
  | [] => some []
  | .bl b :: ds => (boolsD ds).map (b :: ·)
  | _ :: _ => none
def fAll (o : O) : Option O := o.ls.bind fun ds => (boolsD ds).map fun bs => .d (.bl (bs.all id))
section
variable {W : Wd} {Z F Z' F' : Addr → Prop} {P P' : Nat → V} {e : En} {T : Ts} {σ : L2.St} {H H' : Hp} {Q : VK}
theorem boolsD_rds : ∀ {ds : List D} {vs : List V} {bs : List Bool}, boolsD ds = some bs → RDs W H Z ds vs → vs = bs.map V.bl
  | [], vs, bs, h, r => by cases h; exact r
  | d :: ds, vs, bs, h, ⟨v, r, ev, h1, h2⟩ => by
    cases d with
    | bl b =>
      unfold boolsD at h
      cases q : boolsD ds with
      | none => rw [q] at h; cases h
      | some cs =>
        rw [q] at h; cases h
        rw [ev, show v = .bl b from h1, boolsD_rds q h2]; rfl
    | _ => cases h
theorem cAll : CallOk W (on1 fAll) (rAll W.K) := by
  intro Z F P e T σ H os z vs Q hf ss rs k
  obtain ⟨o, rfl, hg⟩ := on1_some hf
  clear hf
  obtain ⟨v, rfl, s⟩ := ss.one
  unfold fAll at hg
  cases q : o.ls with
  | none => rw [q] at hg; cases hg
  | some ds =>
    rw [q] at hg
    simp only [Option.bind_some] at hg
    cases q2 : boolsD ds with
    | none => rw [q2] at hg; cases hg
    | some bs =>
      rw [q2] at hg; cases hg
      obtain ⟨a, us, e, h1, r⟩ := s.list q
      rw [boolsD_rds q2 r] at h1
      exact ⟨a, bs, by rw [e], h1, done_leaf (x := .bl (bs.all id)) rs (fun _ _ => rfl) k⟩
end
end MX
namespace MX
open PySem L2
def cLate (i : Nat) (r : En → Rs (List Ag)) : En → Rs (List Ag) := fun e => match slot e i with
  | none => .bad
  | some _ => (r e).bind fun as e1 => (gName i e1).bind fun a e2 => .ok (a :: as) e2
section
variable {X : Cx} {cl : Cl} {Wo : WX} {pos : Pos}
variable {W : Wd} {Z F Z' F' : Addr → Prop} {P P' : Nat → V} {e : En} {T : Ts} {σ : L2.St} {H H' : Hp}
theorem rdLate {i : Nat} {r : En → Rs (List Ag)} {Q : List V → Hp → Prop} (h : rdC W Wo (cLate i r) σ H Q) : ∃ v, σ[i]? = some (some v) ∧ rdC W Wo r σ H fun vs H1 => Q (v :: vs) H1 := by
  obtain ⟨Z, F, P, e, T, r0, k⟩ := h
  unfold cLate at k
  cases q0 : slot e i with
  | none => rw [q0] at k; exact k.elim
  | some o0 =>
    rw [q0] at k
    simp only at k
    obtain ⟨v, f, hv, _, _⟩ := slot_get r0 q0
    refine ⟨v, hv, Z, F, P, e, T, r0, ?_⟩
    cases qa : r e with
    | bad => rw [qa] at k; exact k
    | exc c ps e1 => rw [qa] at k; exact k
    | ok as e1 =>
      rw [qa] at k
      simp only [Rs.bind_ok] at k
      intro vs Z1 F1 H1 hl s1 r1 l1
      unfold gName at k
      cases q : slot e1 i with
      | none => rw [q] at k; exact k.elim
      | some o =>
        rw [q] at k
        obtain ⟨s, hs, hc⟩ := slot_some q
        cases o with
        | d x =>
          obtain ⟨v', f', hv', hr', _⟩ := slot_get r1 q
          rw [hv] at hv'
          cases hv'
          have r2 : RS W Z1 F1 P e1 (((.d x, none) : Ag).1 :: as.map (·.1) |>.zip (v :: vs) |> (· ++ T)) σ H1 := r1.push hr'.1
          exact k (v :: vs) Z1 F1 H1 (by rw [List.length_cons, List.length_cons, hl]) s1 r2 (lends_cons trivial l1)
        | _ =>
          obtain ⟨v', hv', r2⟩ := r1.lend hs hc
          rw [hv] at hv'
          cases hv'
          refine k (v :: vs) Z1 F1 H1 (by rw [List.length_cons, List.length_cons, hl]) s1 ?_ (lends_cons ⟨hv, trivial⟩ l1)
          unfold lentS
          rw [modS_eq hs]
          exact r2
theorem len_late {i : Nat} {r : En → Rs (List Ag)} {n : Nat} (h : LenIs n r) : LenIs (n + 1) (cLate i r) := fun e as e' q => by
  unfold cLate at q
  cases q0 : slot e i with
  | none => rw [q0] at q; cases q
  | some o0 =>
    rw [q0] at q
    simp only at q
    cases qa : r e with
    | bad => rw [qa] at q; cases q
    | exc c ps e1 => rw [qa] at q; cases q
    | ok bs e1 =>
      rw [qa] at q
      simp only [Rs.bind_ok] at q
      cases qb : gName i e1 with
      | bad => rw [qb] at q; cases q
      | exc c ps e1 => rw [qb] at q; cases q
      | ok a e2 =>
        rw [qb] at q
        cases q
        rw [List.length_cons, h e bs e1 qa]
theorem hc_late {i : Nat} {x : Str} {es : List Expr} {n : Nat} {r} (h : PE X (.Name x pos) (tVar i)) (hr : HC X cl Wo es n r) (hs : starEach (.Name x pos :: es) X.env = (false, eval (.Name x pos) X.env) :: starEach es X.env := by rfl) : HC X cl Wo (.Name x pos :: es) (n + 1) (cLate i r) :=
  ⟨PA.imp (pa_cons h hr.run hs) fun σ H Q h => rdLate h, len_late hr.len⟩
end
end MX
namespace L2
open PySem PySem.Spec PyProof.Rows
end L2
namespace MX
open PySem L2
section
variable {X : Cx} {cl : Cl} {Wo : WX} {pos : Pos}
variable {W : Wd} {Z F Z' F' : Addr → Prop} {P P' : Nat → V} {e : En} {T : Ts} {σ : L2.St} {H H' : Hp} {Q : VK}
theorem RDs.reverse {ds : List D} {vs : List V} (h : RDs W H Z ds vs) : RDs W H Z ds.reverse vs.reverse := by
  induction ds generalizing vs with
  | nil => rw [show vs = [] from h]; exact rfl
  | cons d ds ih =>
    obtain ⟨v, r, e, h1, h2⟩ := h
    rw [e, List.reverse_cons, List.reverse_cons]
    exact (ih h2).append ⟨v, [], rfl, h1, rfl⟩
theorem hs_setLcS {i : Nat} {st : Stmt} {own : List (Str × Nat)} {di} {t : Tg} {dc} {de} {d0 : En → Rs O} (hd : ∀ {W : Wd} {Wo : WX} {σ : L2.St} {H : Hp} {Q : VK}, rdE W Wo d0 σ H Q → rdE W Wo (dLc di (own.map (·.2)) t dc de) σ H Q)
    (h : PS X st (tAsg (tLc (rdI (Cx.wd X cl) Wo di) (rdG (Cx.wd X cl) (own.map (·.2)) t) (rdT (Cx.wd X cl) Wf dc) (rdE (Cx.wd X cl) Wf de) (own.map (·.2))) (L2.gName i))) :
    HS X cl Wo st (sAsg d0 (tName i)) :=
  PS.imp h fun D σ H h => rdLc (hd (rdE_out h fun Z F P e T o v H1 r k => by
    split at k
    · rename_i e2 q; exact k _ Z F H1 .refl (r.store q)
    · exact k.elim))
end
end MX
namespace MX
open PySem L2
end MX
namespace MX
open PySem L2
end MX
namespace MX
open PySem PySem.Spec PyProof.Rows L2 HT
theorem adjust_rev (n : Nat) : Builtin.Slice.sliceAdjust none none (-1) (n : Int) = ((n : Int) - 1, -1) := by
  unfold Builtin.Slice.sliceAdjust
  rfl
theorem places_rev (n : Nat) : Builtin.Slice.slicePlaces ((n : Int) - 1) (-1) (-1) = n := by
  unfold Builtin.Slice.slicePlaces
  have h1 : ¬ ((-1 : Int) > 0) := by omega
  simp only [h1, if_false]
  rw [show -(-1 : Int) = 1 by decide, Int.ediv_one]
  split <;> omega
section
variable {prog : Program} {w : World} {A : Around} {E : Value → Shared → Prop} {s : Shared}
theorem sliceApplied_rev {sl : Addr} {vc : Value} {n : Nat} {Q : Int × Int × Nat → Shared → Prop} (hs : s.heap.IsSliceOf sl .none .none vc) (pc : IsPart vc (some (-1))) (h : Q ((n : Int) - 1, -1, n) s) : wpAny (model prog w) A (Builtin.Slice.sliceApplied (.ref sl) (pure (n : Int))) Q E s := by
  obtain ⟨os, hos, hcs, hds⟩ := id hs
  unfold Builtin.Slice.sliceApplied Builtin.Slice.sliceFields
  refine wpAny_bind (wpAny_bind (wpAny_field hos hds (x := .none) rfl (wpAny_bind (wpAny_field hos hds (x := .none) rfl (wpAny_bind (wpAny_field hos hds (x := vc) rfl (wpAny_pure ?_)))))))
  refine wpAny_bind (slicePart_ pc ?_)
  show wpAny _ _ (if ((-1 : Int) == 0) = true then _ else _) _ _ s
  rw [if_neg (by decide)]
  refine wpAny_bind (slicePart_ .none (wpAny_bind (slicePart_ .none (wpAny_bind (wpAny_pure ?_)))))
  show wpAny _ _ (match Builtin.Slice.sliceAdjust none none (-1) (n : Int) with | (lo, hi) => pure (lo, (-1 : Int), Builtin.Slice.slicePlaces lo hi (-1))) _ _ s
  rw [adjust_rev n]
  show wpAny _ _ (pure ((n : Int) - 1, (-1 : Int), Builtin.Slice.slicePlaces ((n : Int) - 1) (-1) (-1))) _ _ s
  rw [places_rev]
  exact wpAny_pure h
theorem fm_congr {α β : Type} {f g : α → Option β} : ∀ l : List α, (∀ m ∈ l, f m = g m) → l.filterMap f = l.filterMap g
  | [], _ => rfl
  | x :: l, h => by
    rw [List.filterMap_cons, List.filterMap_cons, h x List.mem_cons_self, fm_congr l fun m hm => h m (List.mem_cons_of_mem _ hm)]
theorem pick_rev (xs : Array Value) : ((List.range xs.size).filterMap fun (m : Nat) => xs[((xs.size : Int) - 1 + (m : Int) * (-1)).toNat]?).toArray = xs.toList.reverse.toArray := by
  have e : (List.range xs.size).filterMap (fun (m : Nat) => xs[((xs.size : Int) - 1 + (m : Int) * (-1)).toNat]?) = (List.range xs.size).filterMap ((fun k => xs[k]?) ∘ fun k => xs.size - 1 - k) := by
    refine fm_congr _ fun m hm => ?_
    have := List.mem_range.mp hm
    have e : ((xs.size : Int) - 1 + (m : Int) * (-1)).toNat = xs.size - 1 - m := by omega
    show xs[((xs.size : Int) - 1 + (m : Int) * (-1)).toNat]? = xs[xs.size - 1 - m]?
    rw [e]
  rw [e, ← List.filterMap_map, PySem.W.krv_range, List.filterMap_reverse, PySem.W.krv_all]
theorem getItem_tuple_rev {t sl : Addr} {items : Array Value} {vc : Value} {Q : Value → Shared → Prop} (ht : IsTup s.heap t items) (hs : s.heap.IsSliceOf sl .none .none vc) (pc : IsPart vc (some (-1)))
    (h : Q (.ref s.heap.objs.size) { s with heap := s.heap.push { cls := .type "tuple", data := .seq items.toList.reverse.toArray } })
    (hsz : items.size ≤ sizeLine) : wpAny (model prog w) A (getItem (.ref t) (.ref sl)) Q E s := by
  have htake : sizeOk (.seq items.toList.reverse.toArray) := by
    show items.toList.reverse.toArray.size ≤ sizeLine
    rw [List.size_toArray, List.length_reverse, Array.length_toList]
    exact hsz
  obtain ⟨os, hos, hcs, hds⟩ := id hs
  have hTs : s.TypeIs (.ref sl) "slice" := ⟨os, hos, hcs⟩
  unfold getItem
  try with_reducible refine wpAny_holding ?_
  first | refine wpAny_bind (wpAny_pure ?_) | skip
  refine wpAny_bind (wpAny_sequenceKey ht.typeIs (by decide) ?_)
  refine wpAny_bind (wpAny_callSpecial?_slot (name := Str.ofString "__getitem__") ht.typeIs PyProof.Rows.slot_tuple_getitem
    (wpAny_call_entry PyProof.Rows.slot_tuple_getitem ht.typeIs entry_tuple_getitem ?_ (args_tuple_getitem _ _)))
  show wpAny _ _ (Builtin.Tuple.tupleItemsOf (.ref t) >>= _) _ _ s
  refine wpAny_bind (tupleItemsOf_ ht ?_)
  refine wpAny_bind (wpAny_typeOf hTs ?_)
  rw [if_pos (by decide)]
  refine wpAny_bind (sliceApplied_rev hs pc ?_)
  have hno : ¬ (((((items.size : Int) - 1) : Int) == 0 && (-1 : Int) == 1 && items.size == items.size) = true) := by
    intro q
    rw [Bool.and_eq_true, Bool.and_eq_true] at q
    have q1 : (-1 : Int) = 1 := eq_of_beq q.1.2
    exact absurd q1 (by decide)
  show wpAny _ _ (if (((items.size : Int) - 1) == 0 && (-1 : Int) == 1 && items.size == items.size) = true then _ else _) _ _ s
  rw [if_neg hno, pick_rev]
  first
    | exact wpAny_bind (m := Builtin.Tuple.tupleExact _) (wpAny_newObj_type (wpAny_pure ⟨_, rfl, wpAny_pure h⟩) htake)
    | exact wpAny_bind (m := Builtin.Tuple.tupleExact _) (wpAny_newObj_type (wpAny_bind (wpAny_pure (wpAny_pure ⟨_, rfl, wpAny_pure h⟩))) htake)
    | exact wpAny_bind (wpAny_bind (m := Builtin.Tuple.tupleExact _) (wpAny_newObj_type (wpAny_pure (wpAny_pure ⟨_, rfl, wpAny_pure h⟩)) htake))
    | exact wpAny_bind (wpAny_bind (m := Builtin.Tuple.tupleExact _) (wpAny_newObj_type (wpAny_pure ⟨_, rfl, wpAny_pure h⟩) htake))
end
def rRevT (K : PySem.W.Frag) : V → Hp → VK → Prop := fun x H Q => ∃ a xs, x = .ref a ∧ SqT K H a xs ∧ ∀ p o, H p = none → o.dict = none → Q (.ref p) (upd H p (.frz o (.tup xs.reverse)))
theorem vals_rev {xs : List V} {us : List Value} (r : Vals xs us) : Vals xs.reverse us.reverse := by
  induction r with
  | nil => exact .nil
  | cons r1 r2 ih =>
    rw [List.reverse_cons, List.reverse_cons]
    exact ih.append (.cons r1 .nil)
section
variable {X : Cx} {cl : Cl} {Wo : WX}
theorem pe_rev {e : Expr} {te ts : TE} {j : Nat} {pos p2 p3 p4 : Pos} (he : PE X e te) (hst : PE X (.UnaryOp .USub (.Constant (.int 1) j p3) p4) ts) (h1 : ∀ σ H (Q : VK), Q (.int (-1)) H → ts σ H Q) : PE X (.Subscript e (.Slice none none (some (.UnaryOp .USub (.Constant (.int 1) j p3) p4)) p2) pos) (fun σ H Q => te σ H fun x H1 => rRevT X.K x H1 Q) := by
  refine ⟨fun pins s σ H Q I h => ?_⟩
  refine PyProof.Rows.Subscript_ (thn (he.run pins s σ H _ I h) fun v s1 ⟨x, H1, I1, r1, q1⟩ => ?_)
  refine wpAny_Slice ?_
  rw [evalPart_none]
  refine wpAny_pure ?_
  refine wpAny_pure ?_
  refine thn ((po_some hst).run pins s1 σ H1 (fun o H2 => o = some (-1) ∧ H2 = H1) I1 (h1 σ H1 _ ⟨-1, rfl, rfl, rfl⟩)) fun vc s3 ⟨u, H3, I3, pc, hu, hH⟩ => ?_
  subst hu hH
  have I4 : Inv X pins σ H3 { s3 with heap := s3.heap.push { cls := .type "slice", data := .fields #[.none, .none, vc] } } := I3.kept (t' := s3.toks) fun b ob q => Heap.get?_push_of_some _ q
  obtain ⟨a, xs, rfl, hx, q⟩ := q1
  cases r1
  obtain ⟨its, r, ht, hz⟩ := I4.tuple hx
  have hlen : its.toArray.size = xs.length := by rw [List.size_toArray]; exact r.length.symm
  show wpAny (model X.prog X.w) X.A (subscriptTail e (.Slice none none (some (.UnaryOp .USub (.Constant (.int 1) j p3) p4)) p2) (.ref a) (.ref s3.heap.objs.size)) (EP X pins σ Q) X.xe { s3 with heap := s3.heap.push { cls := .type "slice", data := .fields #[.none, .none, vc] } }
  refine tail_any (ops := _) ht.typeIs PyProof.Rows.slot_tuple_getitem.lookup ?_ (by with_unfolding_all rfl)
  refine getItem_tuple_rev ht (Heap.IsSliceOf.new ..) pc ?_ (by rw [hlen]; exact hz)
  refine ⟨.ref _, _, I4.laid (o := .frz _ (.tup xs.reverse)) (fun b ob q => Heap.get?_push_of_some _ q) (Nat.le_refl _) ⟨Heap.get?_push_size _ rfl, by rw [List.length_reverse]; exact hz, _, vals_rev r, IsTup.new _ _⟩, rfl, q _ _ (I4.hok.fresh (Nat.le_refl _)) rfl⟩
def fRevT (o : O) : Option O := o.tp.map fun ds => .d (.tup ds.reverse)
theorem uRevT {W : Wd} : UnOk W fRevT (rRevT W.K) := by
  intro Z F P e T σ H a z v Q hf sa rs k
  unfold fRevT at hf
  cases q : a.tp with
  | none => rw [q] at hf; cases hf
  | some ds =>
    rw [q] at hf
    cases hf
    obtain ⟨p, vs, ev, hq, r⟩ := sa.tuple q
    exact ⟨p, vs, ev, hq, fun c o hc ho => k _ _ _ _ (Stp.alloc hc) (rs.newT r.reverse hc ho)⟩
theorem he_rev {ex : Expr} {da : En → Rs Ar} {j : Nat} {p2 p3 p4 pos : Pos} (he : HV X cl Wo ex da) : HE X cl Wo (.Subscript ex (.Slice none none (some (.UnaryOp .USub (.Constant (.int 1) j p3) p4)) p2) pos) (dUn fRevT da) :=
  PE.imp (pe_rev he (pe_un un_neg pe_int) fun σ H Q h => ⟨1, rfl, h⟩) fun σ H Q h => rd1 uRevT h
end
end MX
namespace MX
open PySem PySem.Spec PyProof.Rows L2
end MX
namespace MX
open PySem PySem.Spec PyProof.Rows L2
section
variable {X : Cx} {cl : Cl} {Wo : WX} {pos : Pos}
variable {W : Wd} {Z F Z' F' : Addr → Prop} {P : Nat → V} {e : En} {T : Ts} {σ : L2.St} {H H' : Hp}
def nS (k : Nat) : En → Option Int := fun e => match slot e k with
  | some (.d (.int i)) => some i
  | _ => none
def swpL {α : Type} (l : List α) (i j : Nat) : List α := match l[i]?, l[j]? with
  | some a, some b => (l.set i b).set j a
  | _, _ => l
theorem swpL_ok {α : Type} {l : List α} {i j : Nat} (hi : i < l.length) (hj : j < l.length) : swpL l i j = (l.set i l[j]).set j l[i] := by
  unfold swpL
  rw [List.getElem?_eq_getElem hi, List.getElem?_eq_getElem hj]
end
end MX
namespace MX
open PySem PySem.Spec PyProof.Rows L2
section
variable {X : Cx}
def rInDT (K : PySem.W.Frag) : R2 := fun x y H Q => ∃ d ds, Dp K H x d ∧ Dp K H y (.tuple ds) ∧ SeqAt.shaped d = true ∧ SeqAt.shaped (.tuple ds) = true ∧ Q (.bl (ds.any fun z => PyData.eqv z d)) H
def rNotInDT (K : PySem.W.Frag) : R2 := fun x y H Q => ∃ d ds, Dp K H x d ∧ Dp K H y (.tuple ds) ∧ SeqAt.shaped d = true ∧ SeqAt.shaped (.tuple ds) = true ∧ Q (.bl (!ds.any fun z => PyData.eqv z d)) H
theorem op_inDT (hu : X.A.units + 65 < cLine) : OpR X (compareOp .In) (rInDT X.K) := by
  intro pins s σ H x y v u Q I rx ry h
  obtain ⟨d, ds, hd, he, sd, se, q⟩ := h
  obtain ⟨as, r1⟩ := Dp.reads I d x v hd rx
  obtain ⟨bs, r2⟩ := Dp.reads I (.tuple ds) y u he ry
  exact SeqAt.in_tuple_reads r2 r1 (SeqAt.canLay_of_shaped se) (SeqAt.canLay_of_shaped sd) (room_in_shaped sd hu) ⟨.bl _, H, I, rfl, q⟩
theorem op_notInDT (hu : X.A.units + 65 < cLine) : OpR X (compareOp .NotIn) (rNotInDT X.K) := by
  intro pins s σ H x y v u Q I rx ry h
  obtain ⟨d, ds, hd, he, sd, se, q⟩ := h
  obtain ⟨as, r1⟩ := Dp.reads I d x v hd rx
  obtain ⟨bs, r2⟩ := Dp.reads I (.tuple ds) y u he ry
  exact SeqAt.notIn_tuple_reads r2 r1 (SeqAt.canLay_of_shaped se) (SeqAt.canLay_of_shaped sd) (room_in_shaped sd hu) ⟨.bl _, H, I, rfl, q⟩
end
section
variable {W : Wd}
def dinP (a b : O) : Option (Bool × Bool) := match a.fz.py, b.fz.py with
  | some p, some (.list qs) => if (SeqAt.shaped p && SeqAt.shaped (.list qs)) = true then some (true, qs.any fun z => PyData.eqv z p) else none
  | some p, some (.tuple qs) => if (SeqAt.shaped p && SeqAt.shaped (.tuple qs)) = true then some (false, qs.any fun z => PyData.eqv z p) else none
  | _, _ => none
theorem dinP_ok {a b : O} {v u : V} {t c : Bool} (h : dinP a b = some (t, c)) (sa : See W H Z a v) (sb : See W H Z b u) :
    ∃ p qs, Dp W.K H v p ∧ SeqAt.shaped p = true ∧ (qs.any fun z => PyData.eqv z p) = c ∧ ((t = true ∧ Dp W.K H u (.list qs) ∧ SeqAt.shaped (.list qs) = true) ∨ (t = false ∧ Dp W.K H u (.tuple qs) ∧ SeqAt.shaped (.tuple qs) = true)) := by
  unfold dinP at h
  split at h
  · rename_i p qs hp hq
    split at h
    · rename_i hs; cases h
      rw [Bool.and_eq_true] at hs
      exact ⟨p, qs, RD.dp _ _ _ sa.all hp, hs.1, rfl, .inl ⟨rfl, RD.dp _ _ _ sb.all hq, hs.2⟩⟩
    · cases h
  · rename_i p qs hp hq
    split at h
    · rename_i hs; cases h
      rw [Bool.and_eq_true] at hs
      exact ⟨p, qs, RD.dp _ _ _ sa.all hp, hs.1, rfl, .inr ⟨rfl, RD.dp _ _ _ sb.all hq, hs.2⟩⟩
    · cases h
  · cases h
def fInP (a b : O) : Option O := (dinP a b).map fun c => .d (.bl c.2)
def fNinP (a b : O) : Option O := (dinP a b).map fun c => .d (.bl (!c.2))
theorem bInP : BinOk W fInP (fun x y H Q => rInD W.K x y H Q ∨ rInDT W.K x y H Q) := by
  intro Z F P e T σ H a b z v u Q hf sa sb rs k
  unfold fInP at hf
  cases q : dinP a b with
  | none => rw [q] at hf; cases hf
  | some c =>
    obtain ⟨t, c⟩ := c
    rw [q] at hf; cases hf
    obtain ⟨p, qs, h1, h2, h3, ⟨_, h4, h5⟩ | ⟨_, h4, h5⟩⟩ := dinP_ok q sa sb
    · exact .inl ⟨p, qs, h1, h4, h2, h5, by rw [h3]; exact done_leaf (x := .bl c) rs (fun _ _ => rfl) k⟩
    · exact .inr ⟨p, qs, h1, h4, h2, h5, by rw [h3]; exact done_leaf (x := .bl c) rs (fun _ _ => rfl) k⟩
theorem bNinP : BinOk W fNinP (fun x y H Q => rNotInD W.K x y H Q ∨ rNotInDT W.K x y H Q) := by
  intro Z F P e T σ H a b z v u Q hf sa sb rs k
  unfold fNinP at hf
  cases q : dinP a b with
  | none => rw [q] at hf; cases hf
  | some c =>
    obtain ⟨t, c⟩ := c
    rw [q] at hf; cases hf
    obtain ⟨p, qs, h1, h2, h3, ⟨_, h4, h5⟩ | ⟨_, h4, h5⟩⟩ := dinP_ok q sa sb
    · exact .inl ⟨p, qs, h1, h4, h2, h5, by rw [h3]; exact done_leaf (x := .bl (!c)) rs (fun _ _ => rfl) k⟩
    · exact .inr ⟨p, qs, h1, h4, h2, h5, by rw [h3]; exact done_leaf (x := .bl (!c)) rs (fun _ _ => rfl) k⟩
def fInW (a b : O) : Option O := match fInU a b with
  | some z => some z
  | none => fInP a b
def fNinW (a b : O) : Option O := match fNinU a b with
  | some z => some z
  | none => fNinP a b
end
theorem hu65 {k : Nat} {A : Around} (r : Room k A) : A.units + 65 < cLine := by have := r.un; omega
end MX
namespace MX
open PySem PySem.Spec PyProof.Rows L2
section
variable {X : Cx} {cl : Cl} {Wo : WX} {pos : Pos}
variable {W : Wd} {Z F Z' F' : Addr → Prop} {P : Nat → V} {e : En} {T : Ts} {σ : L2.St} {H H' : Hp} {Q : VK}
def tru : O → Option Bool
  | .d .non => some false
  | .d (.bl b) => some b
  | .d (.int i) => some (i != 0)
  | .d (.str y) => if y.length ≤ sizeLine then some ((y.length : Int) != 0) else none
  | .d (.lst xs) => some (!xs.isEmpty)
  | .d (.tup xs) => some (!xs.isEmpty)
  | .lst os => some (!os.isEmpty)
  | .dic ks _ => some (!ks.isEmpty)
  | _ => none
def dTru (d : En → Rs O) : En → Rs Bool := fun e => (d e).bind fun o e1 => match tru o with
  | some b => .ok b e1
  | none => .bad
def dOrG (a b : En → Rs O) : En → Rs O := fun e => (a e).bind fun o e1 => match tru o with
  | some true => .ok o e1
  | some false => b e1
  | none => .bad
def dAndG (a b : En → Rs O) : En → Rs O := fun e => (a e).bind fun o e1 => match tru o with
  | some true => b e1
  | some false => .ok o e1
  | none => .bad
def dNotG (a : En → Rs O) : En → Rs O := fun e => (dTru a e).bind fun k e1 => .ok (.d (.bl (!k))) e1
end
end MX
namespace MX
open PySem PySem.Spec PyProof.Rows L2
section
variable {X : Cx} {cl : Cl} {Wo : WX} {pos : Pos}
variable {W : Wd} {Z F Z' F' : Addr → Prop} {P : Nat → V} {e : En} {T : Ts} {σ : L2.St} {H H' : Hp} {Q : VK}
def putK (i0 : Nat) (os : List O) (r : Rs O) : Rs O := r.bind fun o e2 => match e2[i0]? with
  | some s1 => match s1.cont with
    | none => .ok o (e2.set i0 (s1.put (.lst os)))
    | some _ => .bad
  | none => .bad
end
end MX
namespace MX
open PySem PySem.Spec PyProof.Rows L2
end MX
namespace MX
open PySem PySem.Spec PyProof.Rows L2
end MX
namespace L2
open PySem PySem.Spec PyProof.Rows
end L2
namespace MX
open PySem L2
end MX
namespace L2
open PySem PySem.Spec PyProof.Rows
section
variable {X : Cx}
def rGetL (K : PySem.W.Frag) : V → V → Hp → VK → Prop := fun x y H Q => ∃ p xs i v, x = .ref p ∧ y = .int i ∧ 0 ≤ i ∧ SqL K H p xs ∧ atI xs i = some v ∧ Q v H
theorem get_list : PGet X (rGetL X.K) := by
  intro pins s σ H x y v u Q I rx ry h
  obtain ⟨p, xs, i, z, rfl, rfl, h0, hq, he, q⟩ := h
  cases rx
  obtain ⟨t, rfl⟩ := ry
  obtain ⟨its, r, pl, hz⟩ := I.list hq
  obtain ⟨j, h1, h2, h3, h4, h5⟩ := atI_get he
  obtain ⟨w, ew, rw'⟩ := r.get h2
  have hl := r.length
  have hn := line63
  have hj : i.toNat = j := by
    rw [seqIndex_of h0 h5] at h1
    exact Option.some.inj h1
  exact wpAny_getItem_list pl.isList h0 (by omega) (by rw [hj]; simpa using ew) ⟨z, H, I, rw', q⟩
end
end L2
namespace MX
open PySem L2
section
variable {X : Cx} {cl : Cl} {Wo : WX} {pos : Pos}
variable {W : Wd} {Z F Z' F' : Addr → Prop} {P P' : Nat → V} {e : En} {T : Ts} {σ : L2.St} {H H' : Hp} {Q : VK}
def agI3 (i : Nat) (k a : Int) (f : Int → Int → Int) (e2 : En) : Option O → Option O → Out
  | some c2, some (.d (.int b)) => match c2.store (.d (.int k)) (.d (.int (f a b))) with
    | some c3 => .nx (putS e2 i c3)
    | none => .bad
  | _, _ => .bad
def agI2 (i : Nat) (d : En → Rs Ar) (f : Int → Int → Int) (k : Int) (e1 : En) : Option O → Out
  | some (.d (.int a)) => if 0 ≤ k then (d e1).out fun y e2 => agI3 i k a f e2 (slot e2 i) (y.get e2) else .bad
  | _ => .bad
def agI1 (i : Nat) (d : En → Rs Ar) (f : Int → Int → Int) (e1 : En) : Option O → Option O → Out
  | some c, some (.d (.int k)) => agI2 i d f k e1 (fIxL c (.d (.int k)))
  | _, _ => .bad
def agI0 (i : Nat) (dk d : En → Rs Ar) (f : Int → Int → Int) (e : En) : Option O → Out
  | some _ => (dk e).out fun x e1 => agI1 i d f e1 (slot e1 i) (x.get e1)
  | none => .bad
def sAugI (i : Nat) (dk d : En → Rs Ar) (f : Int → Int → Int) : En → Out := fun e => agI0 i dk d f e (slot e i)
theorem hs_augI {i : Nat} {st : Stmt} {dk d} {f : Int → Int → Int} (h : PS X st (tAugS (tVar i) (rdV (Cx.wd X cl) Wo dk) (rdV (Cx.wd X cl) Wo d) (rGetL X.K) (ipI f) rSetA)) : HS X cl Wo st (sAugI i dk d f) :=
  PS.imp h fun D σ H ⟨Z, F, P, e, T, r0, k⟩ => by
    unfold sAugI at k
    cases q : slot e i with
    | none => rw [q] at k; exact k.elim
    | some c0 =>
      rw [q] at k
      simp only [agI0] at k
      obtain ⟨w, fw, hw, _, _⟩ := slot_get r0 q
      refine ⟨w, hw, Z, F, P, e, T, r0, ?_⟩
      cases qk : dk e with
      | bad => rw [qk] at k; exact k.elim
      | exc c ps e1 => rw [qk] at k; exact k σ
      | ok x e1 =>
        rw [qk] at k
        simp only [Rs.out] at k
        intro u Z1 F1 H1 s1 r1 a1
        cases q1 : slot e1 i with
        | none => rw [q1] at k; exact k.elim
        | some c =>
          cases g1 : x.get e1 with
          | none => rw [q1, g1] at k; exact k.elim
          | some ko =>
            rw [q1, g1] at k
            unfold agI1 at k
            split at k
            · rename_i c' kk ec ek
              cases ec
              cases ek
              obtain ⟨su, r2⟩ := see_tmp r1 a1 g1
              have eu : u = .int kk := su.int
              subst eu
              obtain ⟨w', fw', hw', hro', _⟩ := slot_get r2 q1
              rw [hw] at hw'
              cases hw'
              unfold agI2 at k
              split at k
              · rename_i a ea
                split at k
                · rename_i h0
                  unfold fIxL at ea
                  simp only at ea
                  cases ls : c.ls with
                  | none => rw [ls] at ea; cases ea
                  | some xs =>
                    rw [ls] at ea
                    simp only at ea
                    cases qa : atI xs kk with
                    | none => rw [qa] at ea; cases ea
                    | some xa =>
                      rw [qa] at ea
                      have exa : xa = .int a := by
                        have := Option.some.inj ea
                        exact O.d.inj this
                      subst exa
                      obtain ⟨p, vs, e1', hq, rd⟩ := See.list ⟨fw', hro'⟩ ls
                      obtain ⟨y0, hy, ry⟩ := atI_map rd.len (fun j x hx => rd.get hx) qa
                      have ey : y0 = .int a := ry
                      subst ey
                      refine ⟨p, vs, kk, .int a, e1', rfl, h0, hq, hy, ?_⟩
                      refine ⟨Z1, F1, P, e1, T, r2, ?_⟩
                      cases qd : d e1 with
                      | bad => rw [qd] at k; exact k.elim
                      | exc c ps e2 => rw [qd] at k; exact XOk.step s1 (k σ)
                      | ok y e2 =>
                        rw [qd] at k
                        simp only [Rs.out] at k
                        intro v Z2 F2 H2 s2 r3 a2
                        cases q2 : slot e2 i with
                        | none => rw [q2] at k; exact k.elim
                        | some c2 =>
                          cases g2 : y.get e2 with
                          | none => rw [q2, g2] at k; exact k.elim
                          | some bo =>
                            rw [q2, g2] at k
                            unfold agI3 at k
                            split at k
                            · rename_i c2' b ec2 eb
                              cases ec2
                              cases eb
                              obtain ⟨sv, r4⟩ := see_tmp r3 a2 g2
                              have ev : v = .int b := sv.int
                              subst ev
                              refine ⟨a, b, rfl, rfl, ?_⟩
                              cases g3 : c2.store (.d (.int kk)) (.d (.int (f a b))) with
                              | none => rw [g3] at k; exact k.elim
                              | some c3 =>
                                rw [g3] at k
                                simp only at k
                                have r5 : RS (Cx.wd X cl) Z2 F2 P e2 ((.d (.int (f a b)), .int (f a b)) :: T) σ H2 := r4.push (x := .int (f a b)) (v := .int (f a b)) rfl
                                obtain ⟨s, hs, hc⟩ := slot_some q2
                                obtain ⟨w2, hw2, r6⟩ := r5.lend hs hc
                                rw [hw] at hw2
                                cases hw2
                                refine r6.stO g3 (⟨[], rfl, rfl⟩ : See (Cx.wd X cl) H2 Z2 (.d (.int kk)) (.int kk)) fun H' s5 r7 => ?_
                                have r8 := RS.back r7 (i := i) (s := s.lent) (get_set_self hs) (by cases s <;> rfl) hw
                                rw [set_set, lent_put hc] at r8
                                have e5 : putS e2 i c3 = e2.set i (s.put c3) := by unfold putS; rw [modS_eq hs]
                                rw [e5] at k
                                exact k σ Z2 F2 H' ((s1.trans s2).trans s5) r8
                            · exact k.elim
                · exact k.elim
              · exact k.elim
            · exact k.elim
end
end MX
namespace K01
open PySem L2 MX
def topS (i : Nat) : Stmt := PySem.Challenge.pw_hushsheets_k01_sheets_and_their_wires.main.body.getD i (.Pass ⟨0, 0, 0, 0⟩)
abbrev s__law_mixed : Stmt := topS 22
abbrev sN__law_mixed : List Str := ["number", "k", "first", "second"]
theorem sc__law_mixed : FnScope sN__law_mixed ["number", "k"] (defScope s__law_mixed) := ⟨rfl, rfl, rfl, by decide +kernel, rfl, by decide +kernel, by decide +kernel⟩
abbrev s__law_start : Stmt := topS 23
abbrev sN__law_start : List Str := ["script", "seed", "cell"]
theorem sc__law_start : FnScope sN__law_start ["script"] (defScope s__law_start) := ⟨rfl, rfl, rfl, by decide +kernel, rfl, by decide +kernel, by decide +kernel⟩
abbrev s__law_take : Stmt := topS 24
abbrev sN__law_take : List Str := ["state", "limit", "cells", "cell", "value"]
theorem sc__law_take : FnScope sN__law_take ["state", "limit"] (defScope s__law_take) := ⟨rfl, rfl, rfl, by decide +kernel, rfl, by decide +kernel, by decide +kernel⟩
abbrev s__law_pick : Stmt := topS 25
abbrev sN__law_pick : List Str := ["state", "some"]
theorem sc__law_pick : FnScope sN__law_pick ["state", "some"] (defScope s__law_pick) := ⟨rfl, rfl, rfl, by decide +kernel, rfl, by decide +kernel, by decide +kernel⟩
abbrev s__law_shuffled : Stmt := topS 26
abbrev sN__law_shuffled : List Str := ["state", "some", "left", "found", "k", "at"]
theorem sc__law_shuffled : FnScope sN__law_shuffled ["state", "some"] (defScope s__law_shuffled) := ⟨rfl, rfl, rfl, by decide +kernel, rfl, by decide +kernel, by decide +kernel⟩
abbrev s__law_number : Stmt := topS 29
abbrev sN__law_number : List Str := ["state"]
theorem sc__law_number : FnScope sN__law_number ["state"] (defScope s__law_number) := ⟨rfl, rfl, rfl, by decide +kernel, rfl, by decide +kernel, by decide +kernel⟩
abbrev s__law_sheet : Stmt := topS 30
abbrev sN__law_sheet : List Str := ["state", "inputs", "many", "words", "lines", "k", "wires", "i", "j", "word", "outs"]
theorem sc__law_sheet : FnScope sN__law_sheet ["state", "inputs", "many", "words"] (defScope s__law_sheet) := ⟨rfl, rfl, rfl, by decide +kernel, rfl, by decide +kernel, by decide +kernel⟩
abbrev s__law_is_int : Stmt := topS 28
abbrev sN__law_is_int : List Str := ["value", "low", "high"]
theorem sc__law_is_int : FnScope sN__law_is_int ["value", "low", "high"] (defScope s__law_is_int) := ⟨rfl, rfl, rfl, by decide +kernel, rfl, by decide +kernel, by decide +kernel⟩
abbrev s__law_is_line : Stmt := topS 34
abbrev sN__law_is_line : List Str := ["value", "wires"]
theorem sc__law_is_line : FnScope sN__law_is_line ["value", "wires"] (defScope s__law_is_line) := ⟨rfl, rfl, rfl, by decide +kernel, rfl, by decide +kernel, by decide +kernel⟩
abbrev s__law_is_sheet : Stmt := topS 35
abbrev sN__law_is_sheet : List Str := ["value", "k", "out"]
theorem sc__law_is_sheet : FnScope sN__law_is_sheet ["value"] (defScope s__law_is_sheet) := ⟨rfl, rfl, rfl, by decide +kernel, rfl, by decide +kernel, by decide +kernel⟩
abbrev s__law_faults : Stmt := topS 36
abbrev sN__law_faults : List Str := ["state", "sheet", "inputs", "lines", "outs", "at", "wire", "made", "found", "last", "rows", "new"]
theorem sc__law_faults : FnScope sN__law_faults ["state", "sheet"] (defScope s__law_faults) := ⟨rfl, rfl, rfl, by decide +kernel, rfl, by decide +kernel, by decide +kernel⟩
abbrev s_is_number : Stmt := topS 8
abbrev sN_is_number : List Str := ["value"]
theorem sc_is_number : FnScope sN_is_number ["value"] (defScope s_is_number) := ⟨rfl, rfl, rfl, by decide +kernel, rfl, by decide +kernel, by decide +kernel⟩
abbrev s_is_wire : Stmt := topS 9
abbrev sN_is_wire : List Str := ["value", "wires"]
theorem sc_is_wire : FnScope sN_is_wire ["value", "wires"] (defScope s_is_wire) := ⟨rfl, rfl, rfl, by decide +kernel, rfl, by decide +kernel, by decide +kernel⟩
abbrev s_is_line : Stmt := topS 10
abbrev sN_is_line : List Str := ["value", "wires"]
theorem sc_is_line : FnScope sN_is_line ["value", "wires"] (defScope s_is_line) := ⟨rfl, rfl, rfl, by decide +kernel, rfl, by decide +kernel, by decide +kernel⟩
abbrev s_is_sheet : Stmt := topS 11
abbrev sN_is_sheet : List Str := ["value", "inputs", "lines", "outs", "wire", "at", "line"]
theorem sc_is_sheet : FnScope sN_is_sheet ["value"] (defScope s_is_sheet) := ⟨rfl, rfl, rfl, by decide +kernel, rfl, by decide +kernel, by decide +kernel⟩
abbrev s_check_sheet : Stmt := topS 12
abbrev sN_check_sheet : List Str := ["value"]
theorem sc_check_sheet : FnScope sN_check_sheet ["value"] (defScope s_check_sheet) := ⟨rfl, rfl, rfl, by decide +kernel, rfl, by decide +kernel, by decide +kernel⟩
abbrev s__law_checked : Stmt := topS 37
abbrev sN__law_checked : List Str := ["value", "by_name", "told"]
theorem sc__law_checked : FnScope sN__law_checked ["value", "by_name"] (defScope s__law_checked) := ⟨rfl, rfl, rfl, by decide +kernel, rfl, by decide +kernel, by decide +kernel⟩
abbrev s_product_lines : Stmt := topS 13
abbrev sN_product_lines : List Str := ["sheet", "inputs", "lines", "_", "at", "line"]
theorem sc_product_lines : FnScope sN_product_lines ["sheet"] (defScope s_product_lines) := ⟨rfl, rfl, rfl, by decide +kernel, rfl, by decide +kernel, by decide +kernel⟩
abbrev s_base_wires : Stmt := topS 14
abbrev sN_base_wires : List Str := ["sheet", "wire", "_"]
theorem sc_base_wires : FnScope sN_base_wires ["sheet"] (defScope s_base_wires) := ⟨rfl, rfl, rfl, by decide +kernel, rfl, by decide +kernel, by decide +kernel⟩
abbrev s_line_value : Stmt := topS 15
abbrev sN_line_value : List Str := ["q", "line", "wires"]
theorem sc_line_value : FnScope sN_line_value ["q", "line", "wires"] (defScope s_line_value) := ⟨rfl, rfl, rfl, by decide +kernel, rfl, by decide +kernel, by decide +kernel⟩
abbrev s_wire_values : Stmt := topS 16
abbrev sN_wire_values : List Str := ["q", "sheet", "inputs", "wires", "line", "value"]
theorem sc_wire_values : FnScope sN_wire_values ["q", "sheet", "inputs"] (defScope s_wire_values) := ⟨rfl, rfl, rfl, by decide +kernel, rfl, by decide +kernel, by decide +kernel⟩
abbrev s_results_of : Stmt := topS 17
abbrev sN_results_of : List Str := ["q", "sheet", "inputs", "wires", "wire"]
theorem sc_results_of : FnScope sN_results_of ["q", "sheet", "inputs"] (defScope s_results_of) := ⟨rfl, rfl, rfl, by decide +kernel, rfl, by decide +kernel, by decide +kernel⟩
abbrev s_unit_row : Stmt := topS 18
abbrev sN_unit_row : List Str := ["width", "place"]
theorem sc_unit_row : FnScope sN_unit_row ["width", "place"] (defScope s_unit_row) := ⟨rfl, rfl, rfl, by decide +kernel, rfl, by decide +kernel, by decide +kernel⟩
abbrev s_line_form : Stmt := topS 19
abbrev sN_line_form : List Str := ["q", "line", "forms", "own", "scaled", "a", "b"]
theorem sc_line_form : FnScope sN_line_form ["q", "line", "forms", "own"] (defScope s_line_form) := ⟨rfl, rfl, rfl, by decide +kernel, rfl, by decide +kernel, by decide +kernel⟩
abbrev s_wire_forms : Stmt := topS 20
abbrev sN_wire_forms : List Str := ["q", "sheet", "base", "width", "forms", "at", "line", "wire", "own"]
theorem sc_wire_forms : FnScope sN_wire_forms ["q", "sheet"] (defScope s_wire_forms) := ⟨rfl, rfl, rfl, by decide +kernel, rfl, by decide +kernel, by decide +kernel⟩
abbrev s__law_same : Stmt := topS 27
abbrev sN__law_same : List Str := ["told", "due", "k"]
theorem sc__law_same : FnScope sN__law_same ["told", "due"] (defScope s__law_same) := ⟨rfl, rfl, rfl, by decide +kernel, rfl, by decide +kernel, by decide +kernel⟩
abbrev s__law_walk : Stmt := topS 31
abbrev sN__law_walk : List Str := ["q", "sheet", "inputs", "products", "wires", "at", "line", "one"]
theorem sc__law_walk : FnScope sN__law_walk ["q", "sheet", "inputs", "products"] (defScope s__law_walk) := ⟨rfl, rfl, rfl, by decide +kernel, rfl, by decide +kernel, by decide +kernel⟩
abbrev s__law_base : Stmt := topS 32
abbrev sN__law_base : List Str := ["sheet", "k"]
theorem sc__law_base : FnScope sN__law_base ["sheet"] (defScope s__law_base) := ⟨rfl, rfl, rfl, by decide +kernel, rfl, by decide +kernel, by decide +kernel⟩
abbrev s__law_forms : Stmt := topS 33
abbrev sN__law_forms : List Str := ["q", "sheet", "base", "zero", "found", "k", "unit", "one", "wire", "j", "w"]
theorem sc__law_forms : FnScope sN__law_forms ["q", "sheet"] (defScope s__law_forms) := ⟨rfl, rfl, rfl, by decide +kernel, rfl, by decide +kernel, by decide +kernel⟩
abbrev s__law_is_told : Stmt := topS 38
abbrev sN__law_is_told : List Str := ["state", "q", "sheet", "base", "forms", "turn", "inputs", "wires", "outs", "drawn", "values", "told", "w", "total", "k", "out"]
theorem sc__law_is_told : FnScope sN__law_is_told ["state", "q", "sheet"] (defScope s__law_is_told) := ⟨rfl, rfl, rfl, by decide +kernel, rfl, by decide +kernel, by decide +kernel⟩
abbrev s_law : Stmt := topS 39
abbrev sN_law : List Str := ["script", "state", "turn", "words", "sheet", "q", "value"]
theorem sc_law : FnScope sN_law ["script"] (defScope s_law) := ⟨rfl, rfl, rfl, by decide +kernel, rfl, by decide +kernel, by decide +kernel⟩
def sub_b (x c : String) : Bool := match c with
  | "BadSheet" => ["BadSheet", "HushError"].contains x
  | _ => false
def sub_c (x c : String) : Option Bool := some (sub_b x c)
theorem he_gint {X : Cx} {cl : Cl} {Wo : WX} {pos : Pos} {i : Int} {tk : Tok} {x : Str} (hg : Gl X x) (hm : X.mg x = some (.int i tk)) (hdb : (x == ("__debug__" : Str)) = false := by decide) : HE X cl Wo (.Name x pos) (dC (.int i)) := he_C (v := .int i) (pe_glob hg hm ⟨tk, rfl⟩ hdb) fun _ _ => rfl
set_option genInjectivity false in
structure Facts (K : PySem.W.Frag) (mg : Str → Option Value) where
  a__law_mixed : Addr
  fd__law_mixed : FuncData
  F__law_mixed : Fun K "_law_mixed" "_law_mixed" s__law_mixed a__law_mixed fd__law_mixed
  g__law_mixed : mg "_law_mixed" = some (.ref a__law_mixed)
  a__law_start : Addr
  fd__law_start : FuncData
  F__law_start : Fun K "_law_start" "_law_start" s__law_start a__law_start fd__law_start
  g__law_start : mg "_law_start" = some (.ref a__law_start)
  a__law_take : Addr
  fd__law_take : FuncData
  F__law_take : Fun K "_law_take" "_law_take" s__law_take a__law_take fd__law_take
  g__law_take : mg "_law_take" = some (.ref a__law_take)
  a__law_pick : Addr
  fd__law_pick : FuncData
  F__law_pick : Fun K "_law_pick" "_law_pick" s__law_pick a__law_pick fd__law_pick
  g__law_pick : mg "_law_pick" = some (.ref a__law_pick)
  a__law_shuffled : Addr
  fd__law_shuffled : FuncData
  F__law_shuffled : Fun K "_law_shuffled" "_law_shuffled" s__law_shuffled a__law_shuffled fd__law_shuffled
  g__law_shuffled : mg "_law_shuffled" = some (.ref a__law_shuffled)
  a__law_number : Addr
  fd__law_number : FuncData
  F__law_number : Fun K "_law_number" "_law_number" s__law_number a__law_number fd__law_number
  g__law_number : mg "_law_number" = some (.ref a__law_number)
  a__law_sheet : Addr
  fd__law_sheet : FuncData
  F__law_sheet : Fun K "_law_sheet" "_law_sheet" s__law_sheet a__law_sheet fd__law_sheet
  g__law_sheet : mg "_law_sheet" = some (.ref a__law_sheet)
  a__law_is_int : Addr
  fd__law_is_int : FuncData
  F__law_is_int : Fun K "_law_is_int" "_law_is_int" s__law_is_int a__law_is_int fd__law_is_int
  g__law_is_int : mg "_law_is_int" = some (.ref a__law_is_int)
  a__law_is_line : Addr
  fd__law_is_line : FuncData
  F__law_is_line : Fun K "_law_is_line" "_law_is_line" s__law_is_line a__law_is_line fd__law_is_line
  g__law_is_line : mg "_law_is_line" = some (.ref a__law_is_line)
  a__law_is_sheet : Addr
  fd__law_is_sheet : FuncData
  F__law_is_sheet : Fun K "_law_is_sheet" "_law_is_sheet" s__law_is_sheet a__law_is_sheet fd__law_is_sheet
  g__law_is_sheet : mg "_law_is_sheet" = some (.ref a__law_is_sheet)
  a__law_faults : Addr
  fd__law_faults : FuncData
  F__law_faults : Fun K "_law_faults" "_law_faults" s__law_faults a__law_faults fd__law_faults
  g__law_faults : mg "_law_faults" = some (.ref a__law_faults)
  a_is_number : Addr
  fd_is_number : FuncData
  F_is_number : Fun K "is_number" "is_number" s_is_number a_is_number fd_is_number
  g_is_number : mg "is_number" = some (.ref a_is_number)
  a_is_wire : Addr
  fd_is_wire : FuncData
  F_is_wire : Fun K "is_wire" "is_wire" s_is_wire a_is_wire fd_is_wire
  g_is_wire : mg "is_wire" = some (.ref a_is_wire)
  a_is_line : Addr
  fd_is_line : FuncData
  F_is_line : Fun K "is_line" "is_line" s_is_line a_is_line fd_is_line
  g_is_line : mg "is_line" = some (.ref a_is_line)
  a_is_sheet : Addr
  fd_is_sheet : FuncData
  F_is_sheet : Fun K "is_sheet" "is_sheet" s_is_sheet a_is_sheet fd_is_sheet
  g_is_sheet : mg "is_sheet" = some (.ref a_is_sheet)
  a_check_sheet : Addr
  fd_check_sheet : FuncData
  F_check_sheet : Fun K "check_sheet" "check_sheet" s_check_sheet a_check_sheet fd_check_sheet
  g_check_sheet : mg "check_sheet" = some (.ref a_check_sheet)
  a__law_checked : Addr
  fd__law_checked : FuncData
  F__law_checked : Fun K "_law_checked" "_law_checked" s__law_checked a__law_checked fd__law_checked
  g__law_checked : mg "_law_checked" = some (.ref a__law_checked)
  a_product_lines : Addr
  fd_product_lines : FuncData
  F_product_lines : Fun K "product_lines" "product_lines" s_product_lines a_product_lines fd_product_lines
  g_product_lines : mg "product_lines" = some (.ref a_product_lines)
  a_base_wires : Addr
  fd_base_wires : FuncData
  F_base_wires : Fun K "base_wires" "base_wires" s_base_wires a_base_wires fd_base_wires
  g_base_wires : mg "base_wires" = some (.ref a_base_wires)
  a_line_value : Addr
  fd_line_value : FuncData
  F_line_value : Fun K "line_value" "line_value" s_line_value a_line_value fd_line_value
  g_line_value : mg "line_value" = some (.ref a_line_value)
  a_wire_values : Addr
  fd_wire_values : FuncData
  F_wire_values : Fun K "wire_values" "wire_values" s_wire_values a_wire_values fd_wire_values
  g_wire_values : mg "wire_values" = some (.ref a_wire_values)
  a_results_of : Addr
  fd_results_of : FuncData
  F_results_of : Fun K "results_of" "results_of" s_results_of a_results_of fd_results_of
  g_results_of : mg "results_of" = some (.ref a_results_of)
  a_unit_row : Addr
  fd_unit_row : FuncData
  F_unit_row : Fun K "unit_row" "unit_row" s_unit_row a_unit_row fd_unit_row
  g_unit_row : mg "unit_row" = some (.ref a_unit_row)
  a_line_form : Addr
  fd_line_form : FuncData
  F_line_form : Fun K "line_form" "line_form" s_line_form a_line_form fd_line_form
  g_line_form : mg "line_form" = some (.ref a_line_form)
  a_wire_forms : Addr
  fd_wire_forms : FuncData
  F_wire_forms : Fun K "wire_forms" "wire_forms" s_wire_forms a_wire_forms fd_wire_forms
  g_wire_forms : mg "wire_forms" = some (.ref a_wire_forms)
  a__law_same : Addr
  fd__law_same : FuncData
  F__law_same : Fun K "_law_same" "_law_same" s__law_same a__law_same fd__law_same
  g__law_same : mg "_law_same" = some (.ref a__law_same)
  a__law_walk : Addr
  fd__law_walk : FuncData
  F__law_walk : Fun K "_law_walk" "_law_walk" s__law_walk a__law_walk fd__law_walk
  g__law_walk : mg "_law_walk" = some (.ref a__law_walk)
  a__law_base : Addr
  fd__law_base : FuncData
  F__law_base : Fun K "_law_base" "_law_base" s__law_base a__law_base fd__law_base
  g__law_base : mg "_law_base" = some (.ref a__law_base)
  a__law_forms : Addr
  fd__law_forms : FuncData
  F__law_forms : Fun K "_law_forms" "_law_forms" s__law_forms a__law_forms fd__law_forms
  g__law_forms : mg "_law_forms" = some (.ref a__law_forms)
  a__law_is_told : Addr
  fd__law_is_told : FuncData
  F__law_is_told : Fun K "_law_is_told" "_law_is_told" s__law_is_told a__law_is_told fd__law_is_told
  g__law_is_told : mg "_law_is_told" = some (.ref a__law_is_told)
  a_law : Addr
  fd_law : FuncData
  F_law : Fun K "law" "law" s_law a_law fd_law
  g_law : mg "law" = some (.ref a_law)
  tk_MOST_INPUTS : Tok
  gi_MOST_INPUTS : mg "MOST_INPUTS" = some (.int 16 tk_MOST_INPUTS)
  tk_MOST_LINES : Tok
  gi_MOST_LINES : mg "MOST_LINES" = some (.int 60 tk_MOST_LINES)
  tk_MOST_NUMBER : Tok
  gi_MOST_NUMBER : mg "MOST_NUMBER" = some (.int 1000000000000000000000000000000000000000000000000000000000000 tk_MOST_NUMBER)
  tk_MOST_OUTS : Tok
  gi_MOST_OUTS : mg "MOST_OUTS" = some (.int 8 tk_MOST_OUTS)
  C_BadSheet : Addr
  gc_BadSheet : mg "BadSheet" = some (.ref C_BadSheet)
  k_BadSheet : PySem.W.keepIn K (.ref C_BadSheet) = true
  q_BadSheet : PySem.W.excIn K C_BadSheet [.type "ValueError", .type "Exception", .type "BaseException", .type "object"] "ValueError.__new__" = true
  b_BadSheet : PySem.W.subIn K (.ref C_BadSheet) (.type "BaseException") = some true
  t_BadSheet : PySem.W.typeIn K (.ref C_BadSheet) = some (.type "type")
  e_BadSheet : ExcC K C_BadSheet
  x_BadSheet_BadSheet : PySem.W.exmOne K (.ref C_BadSheet) (.ref C_BadSheet) = some true
  z_abs : mg "abs" = none
  z_all : mg "all" = none
  z_bool : mg "bool" = none
  z_enumerate : mg "enumerate" = none
  z_int : mg "int" = none
  z_isinstance : mg "isinstance" = none
  z_len : mg "len" = none
  z_list : mg "list" = none
  z_range : mg "range" = none
  z_str : mg "str" = none
  z_sum : mg "sum" = none
  z_tuple : mg "tuple" = none
  z_zip : mg "zip" = none
section
variable {P : Program} {w : World} {K : PySem.W.Frag} {mg : Str → Option Value} {base : Heap} (Fx : Facts K mg)
def Facts.cl : Cl := ⟨fun c => match c with
  | "BadSheet" => some Fx.C_BadSheet
  | _ => none, none⟩
theorem Facts.cl_BadSheet : Fx.cl.f "BadSheet" = some Fx.C_BadSheet := rfl
theorem Facts.cls {c : String} {C : Addr} (h : Fx.cl.f c = some C) : (c = "BadSheet" ∧ C = Fx.C_BadSheet) := by
  unfold Facts.cl at h
  simp only at h
  split at h
  · exact ⟨rfl, (Option.some.inj h).symm⟩
  · cases h
theorem Facts.exc (c : String) (C : Addr) (h : Fx.cl.f c = some C) : ExcC K C := by
  rcases Fx.cls h with ⟨rfl, rfl⟩
  · exact Fx.e_BadSheet
theorem Facts.sub_BadSheet (c : String) (C : Addr) (b : Bool) (h : Fx.cl.f c = some C) (hb : sub_c "BadSheet" c = some b) : PySem.W.exmOne K (.ref C) (.ref Fx.C_BadSheet) = some b := by
  rcases Fx.cls h with ⟨rfl, rfl⟩
  · cases hb; exact Fx.x_BadSheet_BadSheet
theorem Facts.nm_BadSheet {X : Cx} (hg : Gl X "BadSheet") (hm : X.mg = mg := by rfl) : Names X "BadSheet" (.ref Fx.C_BadSheet) := ⟨hg, by decide, .inl (by rw [hm]; exact Fx.gc_BadSheet)⟩
theorem kb__law_mixed_2_ : KB K Fx.fd__law_mixed ["number", "k"] [] 2 0 [0, 1] := KB.of Fx.F__law_mixed (fun _ _ _ _ _ _ us ws h0 h1 => match us, ws, h0, h1 with | [_, _], [], _, _ => rfl) (by decide)
def b__law_mixed : En → Out :=
  (sSeq (sAsg (dBin fMod (vT (dCall (on1 fInt) (vCons (vT (dBin fAdd (vT (dBin fAdd (vT (dBin fMul (vS 0) (vT (dC (.int 48271))))) (vT (dBin fMul (vS 1) (vT (dC (.int 69621))))))) (vT (dC (.int 97))))) vNil))) (vT (dC (.int 2147483647)))) (tName 2))
  (sSeq (sAsg (dBin fMod (vT (dCall (on1 fInt) (vCons (vT (dBin fAdd (vT (dBin fAdd (vT (dBin fMul (vS 2) (vT (dBin fAdd (vT (dBin fAdd (vS 2) (vT (dBin fMul (vT (dC (.int 2))) (vS 1))))) (vT (dC (.int 1))))))) (vT (dBin fMul (vS 1) (vT (dC (.int 16807))))))) (vT (dC (.int 31))))) vNil))) (vT (dC (.int 2147483629)))) (tName 3))
  (sRet (dBin fMod (vT (dCall (on1 fInt) (vCons (vT (dBin fAdd (vT (dBin fMul (vS 3) (vT (dC (.int 40692))))) (vS 2))) vNil))) (vT (dC (.int 2147483587)))))))
def d__law_mixed : Den := denFn [true, true] 4 b__law_mixed
theorem R__law_mixed {x0 x1 : O} {o : O} {e : En} {ps : List (Option O)} (h : b__law_mixed [.p x0, .p x1, .no, .no] = .rt o e) (hp : outE 2 e = ps := by rfl) : d__law_mixed [x0, x1] = .ok o ps := by
  show denFn [true, true] 4 b__law_mixed [x0, x1] = _
  unfold denFn
  rw [show initE [true, true] [x0, x1] 4 = [.p x0, .p x1, .no, .no] from rfl, h, ← hp]; rfl
theorem ok__law_mixed : FnOk P w K mg base (L2.CX P w) 1 Fx.a__law_mixed Fx.fd__law_mixed ["number", "k"] (spD ⟨K, Fx.cl.f, none⟩ 2 d__law_mixed) := by
  refine fn_ok (cl := Fx.cl) (k := 0) rfl Fx.F__law_mixed sc__law_mixed rfl (by decide) fun cdv A outer s H E hr => ?_
  exact (show HSs _ _ _ _ b__law_mixed from (hss_cons (hs_asg (ss := [2]) (he_mod (hv_of (he_callTy (f := (on1 fInt)) call_int1 cInt (by rfl) Fx.z_int rfl (hvs_cons (hv_of (he_add (hv_of (he_add (hv_of (he_mul (hv_name (pv 0)) (hv_of he_int))) (hv_of (he_mul (hv_name (pv 1)) (hv_of he_int))))) (hv_of he_int))) hvs_nil))) (hv_of he_int)) (hg_name (pg_name (i := 2) sc__law_mixed.nd rfl (by first | exact .inl rfl | exact .inr rfl))))
      (hss_cons (hs_asg (ss := [3]) (he_mod (hv_of (he_callTy (f := (on1 fInt)) call_int1 cInt (by rfl) Fx.z_int rfl (hvs_cons (hv_of (he_add (hv_of (he_add (hv_of (he_mul (hv_name (pv 2)) (hv_of (he_add (hv_of (he_add (hv_name (pv 2)) (hv_of (he_mul (hv_of he_int) (hv_name (pv 1)))))) (hv_of he_int))))) (hv_of (he_mul (hv_name (pv 1)) (hv_of he_int))))) (hv_of he_int))) hvs_nil))) (hv_of he_int)) (hg_name (pg_name (i := 3) sc__law_mixed.nd rfl (by first | exact .inl rfl | exact .inr rfl))))
      (hss_one (hs_ret (he_mod (hv_of (he_callTy (f := (on1 fInt)) call_int1 cInt (by rfl) Fx.z_int rfl (hvs_cons (hv_of (he_add (hv_of (he_mul (hv_name (pv 3)) (hv_of he_int))) (hv_name (pv 2)))) hvs_nil))) (hv_of he_int)))))))
theorem kb__law_start_1_ : KB K Fx.fd__law_start ["script"] [] 1 0 [0] := KB.of Fx.F__law_start (fun _ _ _ _ _ _ us ws h0 h1 => match us, ws, h0, h1 with | [_], [], _, _ => rfl) (by decide)
abbrev l1__law_start : En → Out :=
  (sAsg (dCallF d__law_mixed [0, 1] (cCons (gVal (dBin fAdd (vS 1) (vS 2))) (cCons (gVal (dC (.int 5))) cNil))) (tName 1))
def b__law_start : En → Out :=
  (sSeq (sAsg (dCall fLenU (vCons (vS 0) vNil)) (tName 1))
  (sSeq (sFor (iAny (dSl fSl (vS 0) oNone (oSome (vT (dC (.int 63)))))) (tName 2) l1__law_start)
  (sRet (dLst (aCons (dC (.int 0)) (aCons (dC (.int 0)) (aCons (dC (.int 0)) (aCons (dVar 1) (aCons (dFz (dCall (on1 fList) (vCons (vT (dSl fSl (vS 0) oNone (oSome (vT (dC (.int 63)))))) vNil))) (aCons (dC (.int 0)) aNil))))))))))
def d__law_start : Den := denFn [true] 3 b__law_start
theorem R__law_start {x0 : O} {o : O} {e : En} {ps : List (Option O)} (h : b__law_start [.p x0, .no, .no] = .rt o e) (hp : outE 1 e = ps := by rfl) : d__law_start [x0] = .ok o ps := by
  show denFn [true] 3 b__law_start [x0] = _
  unfold denFn
  rw [show initE [true] [x0] 3 = [.p x0, .no, .no] from rfl, h, ← hp]; rfl
theorem ok__law_start : FnOk P w K mg base (L2.CX P w) 2 Fx.a__law_start Fx.fd__law_start ["script"] (spD ⟨K, Fx.cl.f, none⟩ 1 d__law_start) := by
  refine fn_ok (cl := Fx.cl) (k := 1) rfl Fx.F__law_start sc__law_start rfl (by decide) fun cdv A outer s H E hr => ?_
  exact (show HSs _ _ _ _ b__law_start from (hss_cons (hs_asg (ss := [1]) (he_callB (f := fLenU) (CallR.or call_len_seq (CallR.or call_len_str call_lenD)) cLenU (by rfl) Fx.z_len rfl (hvs_cons (hv_name (pv 0)) hvs_nil)) (hg_name (pg_name (i := 1) sc__law_start.nd rfl (by first | exact .inl rfl | exact .inr rfl))))
      (hss_cons (hs_for (ss := [2]) (passes_of rfl) rfl (hi_any (he_sl (hv_name (pv 0)) ho_none (ho_some (hv_of he_int)))) (hg_name (pg_name (i := 2) sc__law_start.nd rfl (by first | exact .inl rfl | exact .inr rfl))) (hss_one (hs_asg (ss := [1]) (he_fn (ok__law_mixed Fx) (hr.mono (by first | decide | omega)) (takes_of rfl rfl rfl rfl) (by rfl) Fx.g__law_mixed Fx.F__law_mixed.kp (kb__law_mixed_2_ Fx) (hc_cons (ga_val (he_add (hv_name (pv 1)) (hv_name (pv 2)))) (hc_cons (ga_val he_int) hc_nil))) (hg_name (pg_name (i := 1) sc__law_start.nd rfl (by first | exact .inl rfl | exact .inr rfl))))))
      (hss_one (hs_ret (he_lst (ha_cons he_int (ha_cons he_int (ha_cons he_int (ha_cons (he_var (pv 1)) (ha_cons (he_fz (he_callTy (f := (on1 fList)) call_list_of cList (by rfl) Fx.z_list rfl (hvs_cons (hv_of (he_sl (hv_name (pv 0)) ho_none (ho_some (hv_of he_int)))) hvs_nil))) (ha_cons he_int ha_nil))))))))))))
theorem kb__law_take_2_ : KB K Fx.fd__law_take ["state", "limit"] [] 2 0 [0, 1] := KB.of Fx.F__law_take (fun _ _ _ _ _ _ us ws h0 h1 => match us, ws, h0, h1 with | [_, _], [], _, _ => rfl) (by decide)
def b__law_take : En → Out :=
  (sSeq (sAsg (dBin fIx (vS 0) (vT (dC (.int 4)))) (tName 2))
  (sSeq (sAugI 0 (vT (dC (.int 2))) (vT (dC (.int 1))) (fun i j => i + j))
  (sSeq (sIf (dAndT (dTst (dBin fEq (vT (dBin fIx (vS 0) (vT (dC (.int 0))))) (vT (dC (.int 0))))) (dTst (dBin fLt (vT (dBin fIx (vS 0) (vT (dC (.int 1))))) (vT (dCall fLenU (vCons (vS 2) vNil)))))) (sSeq (sAsg (dBin fIx (vS 2) (vT (dBin fIx (vS 0) (vT (dC (.int 1)))))) (tName 3))
  (sSeq (sAugI 0 (vT (dC (.int 1))) (vT (dC (.int 1))) (fun i j => i + j))
  (sSeq (sIf (dTst (dBin fLt (vT (dCall (on1 fAbs) (vCons (vS 3) vNil))) (vT (dBin fPow (vT (dC (.int 10))) (vT (dC (.int 18))))))) (sRet (dBin fMod (vT (dCall (on1 fInt) (vCons (vT (dCallF d__law_mixed [0, 1] (cCons (gName 3) (cCons (gVal (dBin fIx (vS 0) (vT (dC (.int 2))))) cNil)))) vNil))) (vS 1))) sNext)
  (sSeq (sAsg (dCall (on1 fAbs) (vCons (vS 3) vNil)) (tSub 0 (vT (dC (.int 0)))))
  (sAsg (dC (.int 60)) (tSub 0 (vT (dC (.int 5))))))))) sNext)
  (sSeq (sIf (dTst (dBin fEq (vT (dBin fIx (vS 0) (vT (dC (.int 0))))) (vT (dC (.int 0))))) (sRet (dBin fMod (vT (dCall (on1 fInt) (vCons (vT (dCallF d__law_mixed [0, 1] (cCons (gVal (dBin fIx (vS 0) (vT (dC (.int 3))))) (cCons (gVal (dBin fIx (vS 0) (vT (dC (.int 2))))) cNil)))) vNil))) (vS 1))) sNext)
  (sSeq (sAsg (dBin fMod (vT (dCall (on1 fInt) (vCons (vT (dBin fIx (vS 0) (vT (dC (.int 0))))) vNil))) (vS 1)) (tName 4))
  (sSeq (sAugI 0 (vT (dC (.int 5))) (vT (dC (.int 1))) (fun i j => i - j))
  (sSeq (sAsg (dBin fMul (vT (dBin fDiv (vT (dBin fIx (vS 0) (vT (dC (.int 0))))) (vS 1))) (vT (dCall (on1 fInt) (vCons (vT (dBin fGt (vT (dBin fIx (vS 0) (vT (dC (.int 5))))) (vT (dC (.int 0))))) vNil)))) (tSub 0 (vT (dC (.int 0)))))
  (sRet (dMove 4)))))))))
def d__law_take : Den := denFn [true, true] 5 b__law_take
theorem R__law_take {x0 x1 : O} {o : O} {e : En} {ps : List (Option O)} (h : b__law_take [.p x0, .p x1, .no, .no, .no] = .rt o e) (hp : outE 2 e = ps := by rfl) : d__law_take [x0, x1] = .ok o ps := by
  show denFn [true, true] 5 b__law_take [x0, x1] = _
  unfold denFn
  rw [show initE [true, true] [x0, x1] 5 = [.p x0, .p x1, .no, .no, .no] from rfl, h, ← hp]; rfl
theorem ok__law_take : FnOk P w K mg base (L2.CX P w) 2 Fx.a__law_take Fx.fd__law_take ["state", "limit"] (spD ⟨K, Fx.cl.f, none⟩ 2 d__law_take) := by
  refine fn_ok (cl := Fx.cl) (k := 1) rfl Fx.F__law_take sc__law_take rfl (by decide) fun cdv A outer s H E hr => ?_
  exact (show HSs _ _ _ _ b__law_take from (hss_cons (hs_asg (ss := [2]) (he_sbs (hu_of hr) (hv_name (pv 0)) (hv_of he_int) (fun _ _ => rfl)) (hg_name (pg_name (i := 2) sc__law_take.nd rfl (by first | exact .inl rfl | exact .inr rfl))))
      (hss_cons (hs_augI (i := 0) (ps_augS (pv 0) (hv_of he_int) get_list (hv_of he_int) ip_add (set_any (hu_of hr))))
      (hss_cons (hs_if (ht_w (hw_and (ht_cmp (f := fEq) (OpR.or op_eq (op_eqD hr.units)) bEq (hv_of (he_sbs (hu_of hr) (hv_name (pv 0)) (hv_of he_int) (fun _ _ => rfl))) (hv_of he_int) (nomark _)) (hw_and1 (ht_cmp (f := fLt) op_lt bLt (hv_of (he_sbs (hu_of hr) (hv_name (pv 0)) (hv_of he_int) (fun _ _ => rfl))) (hv_of (he_callB (f := fLenU) (CallR.or call_len_seq (CallR.or call_len_str call_lenD)) cLenU (by rfl) Fx.z_len rfl (hvs_cons (hv_name (pv 2)) hvs_nil))) (nomark _))))) (hss_cons (hs_asg (ss := [3]) (he_sbs (hu_of hr) (hv_name (pv 2)) (hv_of (he_sbs (hu_of hr) (hv_name (pv 0)) (hv_of he_int) (fun _ _ => rfl))) (fun _ _ => rfl)) (hg_name (pg_name (i := 3) sc__law_take.nd rfl (by first | exact .inl rfl | exact .inr rfl))))
      (hss_cons (hs_augI (i := 0) (ps_augS (pv 0) (hv_of he_int) get_list (hv_of he_int) ip_add (set_any (hu_of hr))))
      (hss_cons (hs_if (ht_cmp (f := fLt) op_lt bLt (hv_of (he_callB (f := (on1 fAbs)) call_abs cAbs (by rfl) Fx.z_abs rfl (hvs_cons (hv_name (pv 3)) hvs_nil))) (hv_of (he_pow (hv_of he_int) (hv_of he_int))) (nomark _)) (hss_one (hs_ret (he_mod (hv_of (he_callTy (f := (on1 fInt)) call_int1 cInt (by rfl) Fx.z_int rfl (hvs_cons (hv_of (he_fn (ok__law_mixed Fx) (hr.mono (by first | decide | omega)) (takes_of rfl rfl rfl rfl) (by rfl) Fx.g__law_mixed Fx.F__law_mixed.kp (kb__law_mixed_2_ Fx) (hc_cons (ga_name (pv 3)) (hc_cons (ga_val (he_sbs (hu_of hr) (hv_name (pv 0)) (hv_of he_int) (fun _ _ => rfl))) hc_nil)))) hvs_nil))) (hv_name (pv 1))))) hss_nil)
      (hss_cons (hs_asg (ss := []) (he_callB (f := (on1 fAbs)) call_abs cAbs (by rfl) Fx.z_abs rfl (hvs_cons (hv_name (pv 3)) hvs_nil)) (hg_sub (Wo := Wf) (hu_of hr) (pv 0) (hv_of he_int)))
      (hss_one (hs_asg (ss := []) he_int (hg_sub (Wo := Wf) (hu_of hr) (pv 0) (hv_of he_int)))))))) hss_nil)
      (hss_cons (hs_if (ht_cmp (f := fEq) (OpR.or op_eq (op_eqD hr.units)) bEq (hv_of (he_sbs (hu_of hr) (hv_name (pv 0)) (hv_of he_int) (fun _ _ => rfl))) (hv_of he_int) (nomark _)) (hss_one (hs_ret (he_mod (hv_of (he_callTy (f := (on1 fInt)) call_int1 cInt (by rfl) Fx.z_int rfl (hvs_cons (hv_of (he_fn (ok__law_mixed Fx) (hr.mono (by first | decide | omega)) (takes_of rfl rfl rfl rfl) (by rfl) Fx.g__law_mixed Fx.F__law_mixed.kp (kb__law_mixed_2_ Fx) (hc_cons (ga_val (he_sbs (hu_of hr) (hv_name (pv 0)) (hv_of he_int) (fun _ _ => rfl))) (hc_cons (ga_val (he_sbs (hu_of hr) (hv_name (pv 0)) (hv_of he_int) (fun _ _ => rfl))) hc_nil)))) hvs_nil))) (hv_name (pv 1))))) hss_nil)
      (hss_cons (hs_asg (ss := [4]) (he_mod (hv_of (he_callTy (f := (on1 fInt)) call_int1 cInt (by rfl) Fx.z_int rfl (hvs_cons (hv_of (he_sbs (hu_of hr) (hv_name (pv 0)) (hv_of he_int) (fun _ _ => rfl))) hvs_nil))) (hv_name (pv 1))) (hg_name (pg_name (i := 4) sc__law_take.nd rfl (by first | exact .inl rfl | exact .inr rfl))))
      (hss_cons (hs_augI (i := 0) (ps_augS (pv 0) (hv_of he_int) get_list (hv_of he_int) ip_sub (set_any (hu_of hr))))
      (hss_cons (hs_asg (ss := []) (he_mul (hv_of (he_fdiv (hv_of (he_sbs (hu_of hr) (hv_name (pv 0)) (hv_of he_int) (fun _ _ => rfl))) (hv_name (pv 1)))) (hv_of (he_callTy (f := (on1 fInt)) call_int1 cInt (by rfl) Fx.z_int rfl (hvs_cons (hv_of (he_cmp (f := fGt) op_gt bGt (hv_of (he_sbs (hu_of hr) (hv_name (pv 0)) (hv_of he_int) (fun _ _ => rfl))) (hv_of he_int) (nomark _))) hvs_nil)))) (hg_sub (Wo := Wf) (hu_of hr) (pv 0) (hv_of he_int)))
      (hss_one (hs_ret (he_move (pv 4))))))))))))
theorem kb__law_pick_2_ : KB K Fx.fd__law_pick ["state", "some"] [] 2 0 [0, 1] := KB.of Fx.F__law_pick (fun _ _ _ _ _ _ us ws h0 h1 => match us, ws, h0, h1 with | [_, _], [], _, _ => rfl) (by decide)
def b__law_pick : En → Out :=
  (sRet (dBin fIx (vS 1) (vT (dCallF d__law_take [0, 1] (cCons (gName 0) (cCons (gVal (dCall fLenU (vCons (vS 1) vNil))) cNil))))))
def d__law_pick : Den := denFn [true, true] 2 b__law_pick
theorem R__law_pick {x0 x1 : O} {o : O} {e : En} {ps : List (Option O)} (h : b__law_pick [.p x0, .p x1] = .rt o e) (hp : outE 2 e = ps := by rfl) : d__law_pick [x0, x1] = .ok o ps := by
  show denFn [true, true] 2 b__law_pick [x0, x1] = _
  unfold denFn
  rw [show initE [true, true] [x0, x1] 2 = [.p x0, .p x1] from rfl, h, ← hp]; rfl
theorem ok__law_pick : FnOk P w K mg base (L2.CX P w) 3 Fx.a__law_pick Fx.fd__law_pick ["state", "some"] (spD ⟨K, Fx.cl.f, none⟩ 2 d__law_pick) := by
  refine fn_ok (cl := Fx.cl) (k := 2) rfl Fx.F__law_pick sc__law_pick rfl (by decide) fun cdv A outer s H E hr => ?_
  exact (show HSs _ _ _ _ b__law_pick from (hss_one (hs_ret (he_sbs (hu_of hr) (hv_name (pv 1)) (hv_of (he_fn (ok__law_take Fx) (hr.mono (by first | decide | omega)) (takes_of rfl rfl rfl rfl) (by rfl) Fx.g__law_take Fx.F__law_take.kp (kb__law_take_2_ Fx) (hc_cons (ga_name (pv 0)) (hc_cons (ga_val (he_callB (f := fLenU) (CallR.or call_len_seq (CallR.or call_len_str call_lenD)) cLenU (by rfl) Fx.z_len rfl (hvs_cons (hv_name (pv 1)) hvs_nil))) hc_nil)))) (fun _ _ => rfl)))))
theorem kb__law_shuffled_2_ : KB K Fx.fd__law_shuffled ["state", "some"] [] 2 0 [0, 1] := KB.of Fx.F__law_shuffled (fun _ _ _ _ _ _ us ws h0 h1 => match us, ws, h0, h1 with | [_, _], [], _, _ => rfl) (by decide)
abbrev l1__law_shuffled : En → Out :=
  (sSeq (sAsg (dCallF d__law_take [0, 1] (cCons (gName 0) (cCons (gVal (dCall fLenU (vCons (vS 2) vNil))) cNil))) (tName 5))
  (sSeq (sExpr (dMut 3 fAppend (aCons (dBin fIx (vS 2) (vS 5)) aNil)))
  (sAsg (dBin fAdd (vT (dSl fSl (vS 2) oNone (oSome (vS 5)))) (vT (dSl fSl (vS 2) (oSome (vT (dBin fAdd (vS 5) (vT (dC (.int 1)))))) oNone))) (tName 2))))
def b__law_shuffled : En → Out :=
  (sSeq (sAsg (dCall (on1 fList) (vCons (vS 1) vNil)) (tName 2))
  (sSeq (sAsg (dLst aNil) (tName 3))
  (sSeq (sFor (iOps (vCons (vT (dCall fLenU (vCons (vS 1) vNil))) vNil) gR1) (tName 4) l1__law_shuffled)
  (sRet (dMove 3)))))
def d__law_shuffled : Den := denFn [true, true] 6 b__law_shuffled
theorem R__law_shuffled {x0 x1 : O} {o : O} {e : En} {ps : List (Option O)} (h : b__law_shuffled [.p x0, .p x1, .no, .no, .no, .no] = .rt o e) (hp : outE 2 e = ps := by rfl) : d__law_shuffled [x0, x1] = .ok o ps := by
  show denFn [true, true] 6 b__law_shuffled [x0, x1] = _
  unfold denFn
  rw [show initE [true, true] [x0, x1] 6 = [.p x0, .p x1, .no, .no, .no, .no] from rfl, h, ← hp]; rfl
theorem ok__law_shuffled : FnOk P w K mg base (L2.CX P w) 3 Fx.a__law_shuffled Fx.fd__law_shuffled ["state", "some"] (spD ⟨K, Fx.cl.f, none⟩ 2 d__law_shuffled) := by
  refine fn_ok (cl := Fx.cl) (k := 2) rfl Fx.F__law_shuffled sc__law_shuffled rfl (by decide) fun cdv A outer s H E hr => ?_
  exact (show HSs _ _ _ _ b__law_shuffled from (hss_cons (hs_asg (ss := [2]) (he_callTy (f := (on1 fList)) call_list_of cList (by rfl) Fx.z_list rfl (hvs_cons (hv_name (pv 1)) hvs_nil)) (hg_name (pg_name (i := 2) sc__law_shuffled.nd rfl (by first | exact .inl rfl | exact .inr rfl))))
      (hss_cons (hs_asg (ss := [3]) (he_lst ha_nil) (hg_name (pg_name (i := 3) sc__law_shuffled.nd rfl (by first | exact .inl rfl | exact .inr rfl))))
      (hss_cons (hs_for (ss := [4]) (passes_of rfl) rfl (hi_range1 (by rfl) Fx.z_range (hvs_cons (hv_of (he_callB (f := fLenU) (CallR.or call_len_seq (CallR.or call_len_str call_lenD)) cLenU (by rfl) Fx.z_len rfl (hvs_cons (hv_name (pv 1)) hvs_nil))) hvs_nil)) (hg_name (pg_name (i := 4) sc__law_shuffled.nd rfl (by first | exact .inl rfl | exact .inr rfl))) (hss_cons (hs_asg (ss := [5]) (he_fn (ok__law_take Fx) (hr.mono (by first | decide | omega)) (takes_of rfl rfl rfl rfl) (by rfl) Fx.g__law_take Fx.F__law_take.kp (kb__law_take_2_ Fx) (hc_cons (ga_name (pv 0)) (hc_cons (ga_val (he_callB (f := fLenU) (CallR.or call_len_seq (CallR.or call_len_str call_lenD)) cLenU (by rfl) Fx.z_len rfl (hvs_cons (hv_name (pv 2)) hvs_nil))) hc_nil))) (hg_name (pg_name (i := 5) sc__law_shuffled.nd rfl (by first | exact .inl rfl | exact .inr rfl))))
      (hss_cons (hs_expr (he_mut (id := "list.append") mAppend (pe_bm PySem.F.plainAttrs_list PySem.F.slot_list_append PySem.F.type_list_append mt_append (pv 3) (ha_cons (he_sbs (hu_of hr) (hv_name (pv 2)) (hv_name (pv 5)) (fun _ _ => rfl)) ha_nil))))
      (hss_one (hs_asg (ss := [2]) (he_add (hv_of (he_sl (hv_name (pv 2)) ho_none (ho_some (hv_name (pv 5))))) (hv_of (he_sl (hv_name (pv 2)) (ho_some (hv_of (he_add (hv_name (pv 5)) (hv_of he_int)))) ho_none))) (hg_name (pg_name (i := 2) sc__law_shuffled.nd rfl (by first | exact .inl rfl | exact .inr rfl))))))))
      (hss_one (hs_ret (he_move (pv 3))))))))
theorem kb__law_number_1_ : KB K Fx.fd__law_number ["state"] [] 1 0 [0] := KB.of Fx.F__law_number (fun _ _ _ _ _ _ us ws h0 h1 => match us, ws, h0, h1 with | [_], [], _, _ => rfl) (by decide)
def b__law_number : En → Out :=
  (sRet (dCallF d__law_pick [0, 1] (cLate 0 (cCons (gVal (dLst (aCons (dC (.int 0)) (aCons (dC (.int 1)) (aCons (dUn fNeg (vT (dC (.int 1)))) (aCons (dC (.int 2)) (aCons (dBin fSub (vT (dCallF d__law_take [0, 1] (cCons (gName 0) (cCons (gVal (dC (.int 9))) cNil)))) (vT (dC (.int 4)))) (aCons (dBin fSub (vT (dCallF d__law_take [0, 1] (cCons (gName 0) (cCons (gVal (dC (.int 2001))) cNil)))) (vT (dC (.int 1000)))) (aCons (dBin fAdd (vT (dBin fPow (vT (dC (.int 10))) (vT (dC (.int 59))))) (vT (dCallF d__law_take [0, 1] (cCons (gName 0) (cCons (gVal (dC (.int 1000))) cNil))))) (aCons (dBin fSub (vT (dUn fNeg (vT (dBin fPow (vT (dC (.int 10))) (vT (dC (.int 59))))))) (vT (dC (.int 7)))) aNil)))))))))) cNil))))
def d__law_number : Den := denFn [true] 1 b__law_number
theorem R__law_number {x0 : O} {o : O} {e : En} {ps : List (Option O)} (h : b__law_number [.p x0] = .rt o e) (hp : outE 1 e = ps := by rfl) : d__law_number [x0] = .ok o ps := by
  show denFn [true] 1 b__law_number [x0] = _
  unfold denFn
  rw [show initE [true] [x0] 1 = [.p x0] from rfl, h, ← hp]; rfl
theorem ok__law_number : FnOk P w K mg base (L2.CX P w) 4 Fx.a__law_number Fx.fd__law_number ["state"] (spD ⟨K, Fx.cl.f, none⟩ 1 d__law_number) := by
  refine fn_ok (cl := Fx.cl) (k := 3) rfl Fx.F__law_number sc__law_number rfl (by decide) fun cdv A outer s H E hr => ?_
  exact (show HSs _ _ _ _ b__law_number from (hss_one (hs_ret (he_fn (ok__law_pick Fx) (hr.mono (by first | decide | omega)) (takes_of rfl rfl rfl rfl) (by rfl) Fx.g__law_pick Fx.F__law_pick.kp (kb__law_pick_2_ Fx) (hc_late (pv 0) (hc_cons (ga_val (he_lst (ha_cons he_int (ha_cons he_int (ha_cons (he_un un_neg uNeg (hv_of he_int)) (ha_cons he_int (ha_cons (he_sub (hv_of (he_fn (ok__law_take Fx) (hr.mono (by first | decide | omega)) (takes_of rfl rfl rfl rfl) (by rfl) Fx.g__law_take Fx.F__law_take.kp (kb__law_take_2_ Fx) (hc_cons (ga_name (pv 0)) (hc_cons (ga_val he_int) hc_nil)))) (hv_of he_int)) (ha_cons (he_sub (hv_of (he_fn (ok__law_take Fx) (hr.mono (by first | decide | omega)) (takes_of rfl rfl rfl rfl) (by rfl) Fx.g__law_take Fx.F__law_take.kp (kb__law_take_2_ Fx) (hc_cons (ga_name (pv 0)) (hc_cons (ga_val he_int) hc_nil)))) (hv_of he_int)) (ha_cons (he_add (hv_of (he_pow (hv_of he_int) (hv_of he_int))) (hv_of (he_fn (ok__law_take Fx) (hr.mono (by first | decide | omega)) (takes_of rfl rfl rfl rfl) (by rfl) Fx.g__law_take Fx.F__law_take.kp (kb__law_take_2_ Fx) (hc_cons (ga_name (pv 0)) (hc_cons (ga_val he_int) hc_nil))))) (ha_cons (he_sub (hv_of (he_un un_neg uNeg (hv_of (he_pow (hv_of he_int) (hv_of he_int))))) (hv_of he_int)) ha_nil)))))))))) hc_nil))))))
theorem kb__law_sheet_4_ : KB K Fx.fd__law_sheet ["state", "inputs", "many", "words"] [] 4 0 [0, 1, 2, 3] := KB.of Fx.F__law_sheet (fun _ _ _ _ _ _ us ws h0 h1 => match us, ws, h0, h1 with | [_, _, _, _], [], _, _ => rfl) (by decide)
abbrev l1__law_sheet : En → Out :=
  (sSeq (sAsg (dBin fAdd (vS 1) (vS 5)) (tName 6))
  (sSeq (sPar 7 8 (aCons (dCallF d__law_take [0, 1] (cCons (gName 0) (cCons (gName 6) cNil))) (aCons (dCallF d__law_pick [0, 1] (cLate 0 (cCons (gVal (dLst (aCons (dCallF d__law_take [0, 1] (cCons (gName 0) (cCons (gName 6) cNil))) (aCons (dBin fSub (vS 6) (vT (dC (.int 1)))) aNil)))) cNil))) aNil)))
  (sSeq (sAsg (dCallF d__law_pick [0, 1] (cCons (gName 0) (cCons (gName 3) cNil))) (tName 9))
  (sIf (dTst (dBin fEq (vS 9) (vT (dC (.str (Str.ofString "scale")))))) (sExpr (dMut 4 fAppend (aCons (dTup (aCons (dVar 9) (aCons (dCallF d__law_number [0] (cCons (gName 0) cNil)) (aCons (dVar 8) (aCons (dCallF d__law_number [0] (cCons (gName 0) cNil)) aNil))))) aNil))) (sExpr (dMut 4 fAppend (aCons (dTup (aCons (dVar 9) (aCons (dVar 7) (aCons (dCallF d__law_pick [0, 1] (cCons (gName 0) (cCons (gVal (dLst (aCons (dVar 8) (aCons (dVar 8) (aCons (dVar 7) aNil))))) cNil))) aNil)))) aNil)))))))
abbrev e1__law_sheet : En → Rs O :=
  (dCallF d__law_pick [0, 1] (cLate 0 (cCons (gVal (dLst (aCons (dCallF d__law_take [0, 1] (cCons (gName 0) (cCons (gName 6) cNil))) (aCons (dBin fSub (vS 6) (vT (dC (.int 1)))) aNil)))) cNil)))
def b__law_sheet : En → Out :=
  (sSeq (sAsg (dLst aNil) (tName 4))
  (sSeq (sFor (iOps (vCons (vT (dIf (dTst (dBin fGt (vS 1) (vT (dC (.int 0))))) (dVar 2) (dC (.int 0)))) vNil) gR1) (tName 5) l1__law_sheet)
  (sSeq (sAsg (dBin fAdd (vS 1) (vT (dCall fLenU (vCons (vS 4) vNil)))) (tName 6))
  (sSeq (sAsg (dSave 5 (dLc (iOps (vCons (vT (dIf (dTst (dBin fGt (vS 6) (vT (dC (.int 0))))) (dCallF d__law_take [0, 1] (cCons (gName 0) (cCons (gVal (dC (.int 5))) cNil))) (dC (.int 0)))) vNil) gR1) [5] (tName 5) dYes e1__law_sheet)) (tName 10))
  (sRet (dTup (aCons (dVar 1) (aCons (dCall (on1 fTuple) (vCons (vS 4) vNil)) (aCons (dCall (on1 fTuple) (vCons (vT (dBin fAdd (vS 10) (vT (dSl fSl (vS 10) oNone (oSome (vT (dCallF d__law_take [0, 1] (cCons (gName 0) (cCons (gVal (dC (.int 2))) cNil))))))))) vNil)) aNil)))))))))
def d__law_sheet : Den := denFn [true, true, true, true] 11 b__law_sheet
theorem R__law_sheet {x0 x1 x2 x3 : O} {o : O} {e : En} {ps : List (Option O)} (h : b__law_sheet [.p x0, .p x1, .p x2, .p x3, .no, .no, .no, .no, .no, .no, .no] = .rt o e) (hp : outE 4 e = ps := by rfl) : d__law_sheet [x0, x1, x2, x3] = .ok o ps := by
  show denFn [true, true, true, true] 11 b__law_sheet [x0, x1, x2, x3] = _
  unfold denFn
  rw [show initE [true, true, true, true] [x0, x1, x2, x3] 11 = [.p x0, .p x1, .p x2, .p x3, .no, .no, .no, .no, .no, .no, .no] from rfl, h, ← hp]; rfl
theorem ok__law_sheet : FnOk P w K mg base (L2.CX P w) 5 Fx.a__law_sheet Fx.fd__law_sheet ["state", "inputs", "many", "words"] (spD ⟨K, Fx.cl.f, none⟩ 4 d__law_sheet) := by
  refine fn_ok (cl := Fx.cl) (k := 4) rfl Fx.F__law_sheet sc__law_sheet rfl (by decide) fun cdv A outer s H E hr => ?_
  exact (show HSs _ _ _ _ b__law_sheet from (hss_cons (hs_asg (ss := [4]) (he_lst ha_nil) (hg_name (pg_name (i := 4) sc__law_sheet.nd rfl (by first | exact .inl rfl | exact .inr rfl))))
      (hss_cons (hs_for (ss := [5]) (passes_of rfl) rfl (hi_range1 (by rfl) Fx.z_range (hvs_cons (hv_of (he_if (ht_cmp (f := fGt) op_gt bGt (hv_name (pv 1)) (hv_of he_int) (nomark _)) (he_var (pv 2)) he_int)) hvs_nil)) (hg_name (pg_name (i := 5) sc__law_sheet.nd rfl (by first | exact .inl rfl | exact .inr rfl))) (hss_cons (hs_asg (ss := [6]) (he_add (hv_name (pv 1)) (hv_name (pv 5))) (hg_name (pg_name (i := 6) sc__law_sheet.nd rfl (by first | exact .inl rfl | exact .inr rfl))))
      (hss_cons (hs_par (ps_par (i := 7) (j := 8) rfl sc__law_sheet.nd rfl rfl (by decide) rfl rfl (ha_cons (he_fn (ok__law_take Fx) (hr.mono (by first | decide | omega)) (takes_of rfl rfl rfl rfl) (by rfl) Fx.g__law_take Fx.F__law_take.kp (kb__law_take_2_ Fx) (hc_cons (ga_name (pv 0)) (hc_cons (ga_name (pv 6)) hc_nil))) (ha_cons (he_fn (ok__law_pick Fx) (hr.mono (by first | decide | omega)) (takes_of rfl rfl rfl rfl) (by rfl) Fx.g__law_pick Fx.F__law_pick.kp (kb__law_pick_2_ Fx) (hc_late (pv 0) (hc_cons (ga_val (he_lst (ha_cons (he_fn (ok__law_take Fx) (hr.mono (by first | decide | omega)) (takes_of rfl rfl rfl rfl) (by rfl) Fx.g__law_take Fx.F__law_take.kp (kb__law_take_2_ Fx) (hc_cons (ga_name (pv 0)) (hc_cons (ga_name (pv 6)) hc_nil))) (ha_cons (he_sub (hv_name (pv 6)) (hv_of he_int)) ha_nil)))) hc_nil))) ha_nil)) rfl))
      (hss_cons (hs_asg (ss := [9]) (he_fn (ok__law_pick Fx) (hr.mono (by first | decide | omega)) (takes_of rfl rfl rfl rfl) (by rfl) Fx.g__law_pick Fx.F__law_pick.kp (kb__law_pick_2_ Fx) (hc_cons (ga_name (pv 0)) (hc_cons (ga_name (pv 3)) hc_nil))) (hg_name (pg_name (i := 9) sc__law_sheet.nd rfl (by first | exact .inl rfl | exact .inr rfl))))
      (hss_one (hs_if (ht_cmp (f := fEq) (OpR.or op_eq (op_eqD hr.units)) bEq (hv_name (pv 9)) (hv_of he_str) (nomark _)) (hss_one (hs_expr (he_mut (id := "list.append") mAppend (pe_bm PySem.F.plainAttrs_list PySem.F.slot_list_append PySem.F.type_list_append mt_append (pv 4) (ha_cons (he_tup (ha_cons (he_var (pv 9)) (ha_cons (he_fn (ok__law_number Fx) (hr.mono (by first | decide | omega)) (takes_of rfl rfl rfl rfl) (by rfl) Fx.g__law_number Fx.F__law_number.kp (kb__law_number_1_ Fx) (hc_cons (ga_name (pv 0)) hc_nil)) (ha_cons (he_var (pv 8)) (ha_cons (he_fn (ok__law_number Fx) (hr.mono (by first | decide | omega)) (takes_of rfl rfl rfl rfl) (by rfl) Fx.g__law_number Fx.F__law_number.kp (kb__law_number_1_ Fx) (hc_cons (ga_name (pv 0)) hc_nil)) ha_nil))))) ha_nil))))) (hss_one (hs_expr (he_mut (id := "list.append") mAppend (pe_bm PySem.F.plainAttrs_list PySem.F.slot_list_append PySem.F.type_list_append mt_append (pv 4) (ha_cons (he_tup (ha_cons (he_var (pv 9)) (ha_cons (he_var (pv 7)) (ha_cons (he_fn (ok__law_pick Fx) (hr.mono (by first | decide | omega)) (takes_of rfl rfl rfl rfl) (by rfl) Fx.g__law_pick Fx.F__law_pick.kp (kb__law_pick_2_ Fx) (hc_cons (ga_name (pv 0)) (hc_cons (ga_val (he_lst (ha_cons (he_var (pv 8)) (ha_cons (he_var (pv 8)) (ha_cons (he_var (pv 7)) ha_nil))))) hc_nil))) ha_nil)))) ha_nil)))))))))))
      (hss_cons (hs_asg (ss := [6]) (he_add (hv_name (pv 1)) (hv_of (he_callB (f := fLenU) (CallR.or call_len_seq (CallR.or call_len_str call_lenD)) cLenU (by rfl) Fx.z_len rfl (hvs_cons (hv_name (pv 4)) hvs_nil)))) (hg_name (pg_name (i := 6) sc__law_sheet.nd rfl (by first | exact .inl rfl | exact .inr rfl))))
      (hss_cons (hs_setLcS (own := [("k", 5)]) (di := (iOps (vCons (vT (dIf (dTst (dBin fGt (vS 6) (vT (dC (.int 0))))) (dCallF d__law_take [0, 1] (cCons (gName 0) (cCons (gVal (dC (.int 5))) cNil))) (dC (.int 0)))) vNil) gR1)) (t := (tName 5)) (dc := dYes) (de := e1__law_sheet) (d0 := (dSave 5 (dLc (iOps (vCons (vT (dIf (dTst (dBin fGt (vS 6) (vT (dC (.int 0))))) (dCallF d__law_take [0, 1] (cCons (gName 0) (cCons (gVal (dC (.int 5))) cNil))) (dC (.int 0)))) vNil) gR1) [5] (tName 5) dYes e1__law_sheet))) (fun h => (rd_save h)) (ps_setLc (i := 10) rfl sc__law_sheet.nd rfl rfl (sw_true rfl rfl rfl (by decide +kernel)) (hi_range1 (by rfl) Fx.z_range (hvs_cons (hv_of (he_if (ht_cmp (f := fGt) op_gt bGt (hv_name (pv 6)) (hv_of he_int) (nomark _)) (he_fn (ok__law_take Fx) (hr.mono (by first | decide | omega)) (takes_of rfl rfl rfl rfl) (by rfl) Fx.g__law_take Fx.F__law_take.kp (kb__law_take_2_ Fx) (hc_cons (ga_name (pv 0)) (hc_cons (ga_val he_int) hc_nil))) he_int)) hvs_nil)) (blkOk_by (own := [("k", 5)]) (N := sN__law_sheet) (sc := defScope s__law_sheet) (by decide +kernel)) (fun _ _ _ _ _ => (hg_name (pg_name (i := 5) sc__law_sheet.nd rfl (by first | exact .inl rfl | exact .inr rfl)))) (fun _ _ _ _ _ => hts_nil) (fun _ _ _ _ _ => (he_fn (ok__law_pick Fx) (hr.mono (by first | decide | omega)) takes0 (by rfl) Fx.g__law_pick Fx.F__law_pick.kp (kb__law_pick_2_ Fx) (hc_late (pv 0) (hc_cons (ga_val (he_lst (ha_cons (he_fn (ok__law_take Fx) (hr.mono (by first | decide | omega)) takes0 (by rfl) Fx.g__law_take Fx.F__law_take.kp (kb__law_take_2_ Fx) (hc_cons (ga_name (pv 0)) (hc_cons (ga_name (pv 6)) hc_nil))) (ha_cons (he_sub (hv_name (pv 6)) (hv_of he_int)) ha_nil)))) hc_nil))))))
      (hss_one (hs_ret (he_tup (ha_cons (he_var (pv 1)) (ha_cons (he_callTy (f := (on1 fTuple)) call_tupleN cTuple (by rfl) Fx.z_tuple rfl (hvs_cons (hv_name (pv 4)) hvs_nil)) (ha_cons (he_callTy (f := (on1 fTuple)) call_tupleN cTuple (by rfl) Fx.z_tuple rfl (hvs_cons (hv_of (he_add (hv_name (pv 10)) (hv_of (he_sl (hv_name (pv 10)) ho_none (ho_some (hv_of (he_fn (ok__law_take Fx) (hr.mono (by first | decide | omega)) (takes_of rfl rfl rfl rfl) (by rfl) Fx.g__law_take Fx.F__law_take.kp (kb__law_take_2_ Fx) (hc_cons (ga_name (pv 0)) (hc_cons (ga_val he_int) hc_nil))))))))) hvs_nil)) ha_nil)))))))))))
theorem kb__law_is_int_3_ : KB K Fx.fd__law_is_int ["value", "low", "high"] [] 3 0 [0, 1, 2] := KB.of Fx.F__law_is_int (fun _ _ _ _ _ _ us ws h0 h1 => match us, ws, h0, h1 with | [_, _, _], [], _, _ => rfl) (by decide)
def b__law_is_int : En → Out :=
  (sRet (dAndV (dCall (on2 fIsi) (vCons (vS 0) (vCons (vT (dC (.ty "int"))) vNil))) (dAndV (dNotV (dCall (on2 fIsi) (vCons (vS 0) (vCons (vT (dC (.ty "bool"))) vNil)))) (dChain fLe fLe (vS 1) (vS 0) (vS 2)))))
def d__law_is_int : Den := denFn [true, true, true] 3 b__law_is_int
theorem R__law_is_int {x0 x1 x2 : O} {o : O} {e : En} {ps : List (Option O)} (h : b__law_is_int [.p x0, .p x1, .p x2] = .rt o e) (hp : outE 3 e = ps := by rfl) : d__law_is_int [x0, x1, x2] = .ok o ps := by
  show denFn [true, true, true] 3 b__law_is_int [x0, x1, x2] = _
  unfold denFn
  rw [show initE [true, true, true] [x0, x1, x2] 3 = [.p x0, .p x1, .p x2] from rfl, h, ← hp]; rfl
theorem ok__law_is_int : FnOk P w K mg base (L2.CX P w) 1 Fx.a__law_is_int Fx.fd__law_is_int ["value", "low", "high"] (spD ⟨K, Fx.cl.f, none⟩ 3 d__law_is_int) := by
  refine fn_ok (cl := Fx.cl) (k := 0) rfl Fx.F__law_is_int sc__law_is_int rfl (by decide) fun cdv A outer s H E hr => ?_
  exact (show HSs _ _ _ _ b__law_is_int from (hss_one (hs_ret (he_and (he_callB (f := on2 fIsi) call_isi cIsi (by rfl) Fx.z_isinstance rfl (hvs_cons (hv_name (pv 0)) (hvs_cons (hv_of (he_ty (by rfl) Fx.z_int rfl)) hvs_nil))) (he_and (he_not (he_callB (f := on2 fIsi) call_isi cIsi (by rfl) Fx.z_isinstance rfl (hvs_cons (hv_name (pv 0)) (hvs_cons (hv_of (he_ty (by rfl) Fx.z_bool rfl)) hvs_nil)))) (he_one (he_chain op_le op_le bLe bLe (pe_chain op_le op_le (hv_name (pv 1)) (hv_name (pv 0)) (hv_name (pv 2))))))))))
theorem kb__law_is_line_2_ : KB K Fx.fd__law_is_line ["value", "wires"] [] 2 0 [0, 1] := KB.of Fx.F__law_is_line (fun _ _ _ _ _ _ us ws h0 h1 => match us, ws, h0, h1 with | [_, _], [], _, _ => rfl) (by decide)
def b__law_is_line : En → Out :=
  (sSeq (sIf (dOrT (dNotT (dTst (dCall (on2 fIsi) (vCons (vS 0) (vCons (vT (dC (.ty "tuple"))) vNil))))) (dOrT (dTst (dBin fEq (vS 0) (vT (dTup aNil)))) (dNotT (dTst (dCall (on2 fIsi) (vCons (vT (dBin fIx (vS 0) (vT (dC (.int 0))))) (vCons (vT (dC (.ty "str"))) vNil))))))) (sRet (dC (.bl false))) sNext)
  (sSeq (sIf (dTst (dBin fEq (vT (dBin fIx (vS 0) (vT (dC (.int 0))))) (vT (dC (.str (Str.ofString "scale")))))) (sRet (dAndV (dBin fEq (vT (dCall fLenU (vCons (vS 0) vNil))) (vT (dC (.int 4)))) (dAndV (dCall (on2 fIsi) (vCons (vT (dBin fIx (vS 0) (vT (dC (.int 1))))) (vCons (vT (dC (.ty "int"))) vNil))) (dAndV (dCallF d__law_is_int [0, 1, 2] (cCons (gVal (dBin fIx (vS 0) (vT (dC (.int 2))))) (cCons (gVal (dC (.int 0))) (cCons (gVal (dBin fSub (vS 1) (vT (dC (.int 1))))) cNil)))) (dCall (on2 fIsi) (vCons (vT (dBin fIx (vS 0) (vT (dC (.int 3))))) (vCons (vT (dC (.ty "int"))) vNil))))))) sNext)
  (sRet (dAndV (dBin fInU (vT (dBin fIx (vS 0) (vT (dC (.int 0))))) (vT (dTup (aCons (dC (.str (Str.ofString "add"))) (aCons (dC (.str (Str.ofString "times"))) aNil))))) (dAndV (dBin fEq (vT (dCall fLenU (vCons (vS 0) vNil))) (vT (dC (.int 3)))) (dAndV (dCallF d__law_is_int [0, 1, 2] (cCons (gVal (dBin fIx (vS 0) (vT (dC (.int 1))))) (cCons (gVal (dC (.int 0))) (cCons (gVal (dBin fSub (vS 1) (vT (dC (.int 1))))) cNil)))) (dCallF d__law_is_int [0, 1, 2] (cCons (gVal (dBin fIx (vS 0) (vT (dC (.int 2))))) (cCons (gVal (dC (.int 0))) (cCons (gVal (dBin fSub (vS 1) (vT (dC (.int 1))))) cNil))))))))))
def d__law_is_line : Den := denFn [true, true] 2 b__law_is_line
theorem R__law_is_line {x0 x1 : O} {o : O} {e : En} {ps : List (Option O)} (h : b__law_is_line [.p x0, .p x1] = .rt o e) (hp : outE 2 e = ps := by rfl) : d__law_is_line [x0, x1] = .ok o ps := by
  show denFn [true, true] 2 b__law_is_line [x0, x1] = _
  unfold denFn
  rw [show initE [true, true] [x0, x1] 2 = [.p x0, .p x1] from rfl, h, ← hp]; rfl
theorem ok__law_is_line : FnOk P w K mg base (L2.CX P w) 2 Fx.a__law_is_line Fx.fd__law_is_line ["value", "wires"] (spD ⟨K, Fx.cl.f, none⟩ 2 d__law_is_line) := by
  refine fn_ok (cl := Fx.cl) (k := 1) rfl Fx.F__law_is_line sc__law_is_line rfl (by decide) fun cdv A outer s H E hr => ?_
  exact (show HSs _ _ _ _ b__law_is_line from (hss_cons (hs_if (ht_w (hw_or (ht_not (ht_val (he_callB (f := on2 fIsi) call_isi cIsi (by rfl) Fx.z_isinstance rfl (hvs_cons (hv_name (pv 0)) (hvs_cons (hv_of (he_ty (by rfl) Fx.z_tuple rfl)) hvs_nil))))) (hw_or (ht_cmp (f := fEq) (OpR.or op_eq (op_eqD hr.units)) bEq (hv_name (pv 0)) (hv_of (he_tup ha_nil)) (nomark _)) (hw_or1 (ht_not (ht_val (he_callB (f := on2 fIsi) call_isi cIsi (by rfl) Fx.z_isinstance rfl (hvs_cons (hv_of (he_sbs (hu_of hr) (hv_name (pv 0)) (hv_of he_int) (fun _ _ => rfl))) (hvs_cons (hv_of (he_ty (by rfl) Fx.z_str rfl)) hvs_nil))))))))) (hss_one (hs_ret he_bl)) hss_nil)
      (hss_cons (hs_if (ht_cmp (f := fEq) (OpR.or op_eq (op_eqD hr.units)) bEq (hv_of (he_sbs (hu_of hr) (hv_name (pv 0)) (hv_of he_int) (fun _ _ => rfl))) (hv_of he_str) (nomark _)) (hss_one (hs_ret (he_and (he_cmp (f := fEq) (OpR.or op_eq (op_eqD hr.units)) bEq (hv_of (he_callB (f := fLenU) (CallR.or call_len_seq (CallR.or call_len_str call_lenD)) cLenU (by rfl) Fx.z_len rfl (hvs_cons (hv_name (pv 0)) hvs_nil))) (hv_of he_int) (nomark _)) (he_and (he_callB (f := on2 fIsi) call_isi cIsi (by rfl) Fx.z_isinstance rfl (hvs_cons (hv_of (he_sbs (hu_of hr) (hv_name (pv 0)) (hv_of he_int) (fun _ _ => rfl))) (hvs_cons (hv_of (he_ty (by rfl) Fx.z_int rfl)) hvs_nil))) (he_and (he_fn (ok__law_is_int Fx) (hr.mono (by first | decide | omega)) (takes_of rfl rfl rfl rfl) (by rfl) Fx.g__law_is_int Fx.F__law_is_int.kp (kb__law_is_int_3_ Fx) (hc_cons (ga_val (he_sbs (hu_of hr) (hv_name (pv 0)) (hv_of he_int) (fun _ _ => rfl))) (hc_cons (ga_val he_int) (hc_cons (ga_val (he_sub (hv_name (pv 1)) (hv_of he_int))) hc_nil)))) (he_one (he_callB (f := on2 fIsi) call_isi cIsi (by rfl) Fx.z_isinstance rfl (hvs_cons (hv_of (he_sbs (hu_of hr) (hv_name (pv 0)) (hv_of he_int) (fun _ _ => rfl))) (hvs_cons (hv_of (he_ty (by rfl) Fx.z_int rfl)) hvs_nil))))))))) hss_nil)
      (hss_one (hs_ret (he_and (he_cmp (f := fInU) (OpR.or op_in_seq (op_in_dk (hu_of hr))) (BinOk.or bIn bDin) (hv_of (he_sbs (hu_of hr) (hv_name (pv 0)) (hv_of he_int) (fun _ _ => rfl))) (hv_of (he_tup (ha_cons he_str (ha_cons he_str ha_nil)))) (by rfl)) (he_and (he_cmp (f := fEq) (OpR.or op_eq (op_eqD hr.units)) bEq (hv_of (he_callB (f := fLenU) (CallR.or call_len_seq (CallR.or call_len_str call_lenD)) cLenU (by rfl) Fx.z_len rfl (hvs_cons (hv_name (pv 0)) hvs_nil))) (hv_of he_int) (nomark _)) (he_and (he_fn (ok__law_is_int Fx) (hr.mono (by first | decide | omega)) (takes_of rfl rfl rfl rfl) (by rfl) Fx.g__law_is_int Fx.F__law_is_int.kp (kb__law_is_int_3_ Fx) (hc_cons (ga_val (he_sbs (hu_of hr) (hv_name (pv 0)) (hv_of he_int) (fun _ _ => rfl))) (hc_cons (ga_val he_int) (hc_cons (ga_val (he_sub (hv_name (pv 1)) (hv_of he_int))) hc_nil)))) (he_one (he_fn (ok__law_is_int Fx) (hr.mono (by first | decide | omega)) (takes_of rfl rfl rfl rfl) (by rfl) Fx.g__law_is_int Fx.F__law_is_int.kp (kb__law_is_int_3_ Fx) (hc_cons (ga_val (he_sbs (hu_of hr) (hv_name (pv 0)) (hv_of he_int) (fun _ _ => rfl))) (hc_cons (ga_val he_int) (hc_cons (ga_val (he_sub (hv_name (pv 1)) (hv_of he_int))) hc_nil)))))))))))))
theorem kb__law_is_sheet_1_ : KB K Fx.fd__law_is_sheet ["value"] [] 1 0 [0] := KB.of Fx.F__law_is_sheet (fun _ _ _ _ _ _ us ws h0 h1 => match us, ws, h0, h1 with | [_], [], _, _ => rfl) (by decide)
abbrev l1__law_is_sheet : En → Out :=
  (sIf (dNotT (dTst (dCallF d__law_is_line [0, 1] (cCons (gVal (dBin fIx (vT (dBin fIx (vS 0) (vT (dC (.int 1))))) (vS 1))) (cCons (gVal (dBin fAdd (vT (dBin fIx (vS 0) (vT (dC (.int 0))))) (vS 1))) cNil))))) (sRet (dC (.bl false))) sNext)
abbrev c1__law_is_sheet : En → Rs Bool :=
  (dNotT (dTst (dCallF d__law_is_int [0, 1, 2] (cCons (gName 2) (cCons (gVal (dC (.int 0))) (cCons (gVal (dBin fSub (vT (dBin fAdd (vT (dBin fIx (vS 0) (vT (dC (.int 0))))) (vT (dCall fLenU (vCons (vT (dBin fIx (vS 0) (vT (dC (.int 1))))) vNil))))) (vT (dC (.int 1))))) cNil))))))
def b__law_is_sheet : En → Out :=
  (sSeq (sIf (dOrT (dNotT (dTst (dCall (on2 fIsi) (vCons (vS 0) (vCons (vT (dC (.ty "tuple"))) vNil))))) (dOrT (dTst (dBin fNe (vT (dCall fLenU (vCons (vS 0) vNil))) (vT (dC (.int 3))))) (dOrT (dNotT (dTst (dCallF d__law_is_int [0, 1, 2] (cCons (gVal (dBin fIx (vS 0) (vT (dC (.int 0))))) (cCons (gVal (dC (.int 0))) (cCons (gVal (dC (.int 16))) cNil)))))) (dOrT (dNotT (dTst (dCall (on2 fIsi) (vCons (vT (dBin fIx (vS 0) (vT (dC (.int 1))))) (vCons (vT (dC (.ty "tuple"))) vNil))))) (dTst (dBin fGt (vT (dCall fLenU (vCons (vT (dBin fIx (vS 0) (vT (dC (.int 1))))) vNil))) (vT (dC (.int 60))))))))) (sRet (dC (.bl false))) sNext)
  (sSeq (sFor (iOps (vCons (vT (dCall fLenU (vCons (vT (dBin fIx (vS 0) (vT (dC (.int 1))))) vNil))) vNil) gR1) (tName 1) l1__law_is_sheet)
  (sSeq (sIf (dOrT (dNotT (dTst (dCall (on2 fIsi) (vCons (vT (dBin fIx (vS 0) (vT (dC (.int 2))))) (vCons (vT (dC (.ty "tuple"))) vNil))))) (dTst (dBin fGt (vT (dCall fLenU (vCons (vT (dBin fIx (vS 0) (vT (dC (.int 2))))) vNil))) (vT (dC (.int 8)))))) (sRet (dC (.bl false))) sNext)
  (sRet (dBin fEq (vT (dCall fLenU (vCons (vT (dLc (iAny (dBin fIx (vS 0) (vT (dC (.int 2))))) [2] (tName 2) c1__law_is_sheet (dVar 2))) vNil))) (vT (dC (.int 0))))))))
def d__law_is_sheet : Den := denFn [true] 3 b__law_is_sheet
theorem R__law_is_sheet {x0 : O} {o : O} {e : En} {ps : List (Option O)} (h : b__law_is_sheet [.p x0, .no, .no] = .rt o e) (hp : outE 1 e = ps := by rfl) : d__law_is_sheet [x0] = .ok o ps := by
  show denFn [true] 3 b__law_is_sheet [x0] = _
  unfold denFn
  rw [show initE [true] [x0] 3 = [.p x0, .no, .no] from rfl, h, ← hp]; rfl
theorem ok__law_is_sheet : FnOk P w K mg base (L2.CX P w) 3 Fx.a__law_is_sheet Fx.fd__law_is_sheet ["value"] (spD ⟨K, Fx.cl.f, none⟩ 1 d__law_is_sheet) := by
  refine fn_ok (cl := Fx.cl) (k := 2) rfl Fx.F__law_is_sheet sc__law_is_sheet rfl (by decide) fun cdv A outer s H E hr => ?_
  exact (show HSs _ _ _ _ b__law_is_sheet from (hss_cons (hs_if (ht_w (hw_or (ht_not (ht_val (he_callB (f := on2 fIsi) call_isi cIsi (by rfl) Fx.z_isinstance rfl (hvs_cons (hv_name (pv 0)) (hvs_cons (hv_of (he_ty (by rfl) Fx.z_tuple rfl)) hvs_nil))))) (hw_or (ht_cmp (f := fNe) (OpR.or op_ne (op_neD hr.units)) bNe (hv_of (he_callB (f := fLenU) (CallR.or call_len_seq (CallR.or call_len_str call_lenD)) cLenU (by rfl) Fx.z_len rfl (hvs_cons (hv_name (pv 0)) hvs_nil))) (hv_of he_int) (nomark _)) (hw_or (ht_not (ht_val (he_fn (ok__law_is_int Fx) (hr.mono (by first | decide | omega)) (takes_of rfl rfl rfl rfl) (by rfl) Fx.g__law_is_int Fx.F__law_is_int.kp (kb__law_is_int_3_ Fx) (hc_cons (ga_val (he_sbs (hu_of hr) (hv_name (pv 0)) (hv_of he_int) (fun _ _ => rfl))) (hc_cons (ga_val he_int) (hc_cons (ga_val he_int) hc_nil)))))) (hw_or (ht_not (ht_val (he_callB (f := on2 fIsi) call_isi cIsi (by rfl) Fx.z_isinstance rfl (hvs_cons (hv_of (he_sbs (hu_of hr) (hv_name (pv 0)) (hv_of he_int) (fun _ _ => rfl))) (hvs_cons (hv_of (he_ty (by rfl) Fx.z_tuple rfl)) hvs_nil))))) (hw_or1 (ht_cmp (f := fGt) op_gt bGt (hv_of (he_callB (f := fLenU) (CallR.or call_len_seq (CallR.or call_len_str call_lenD)) cLenU (by rfl) Fx.z_len rfl (hvs_cons (hv_of (he_sbs (hu_of hr) (hv_name (pv 0)) (hv_of he_int) (fun _ _ => rfl))) hvs_nil))) (hv_of he_int) (nomark _)))))))) (hss_one (hs_ret he_bl)) hss_nil)
      (hss_cons (hs_for (ss := [1]) (passes_of rfl) rfl (hi_range1 (by rfl) Fx.z_range (hvs_cons (hv_of (he_callB (f := fLenU) (CallR.or call_len_seq (CallR.or call_len_str call_lenD)) cLenU (by rfl) Fx.z_len rfl (hvs_cons (hv_of (he_sbs (hu_of hr) (hv_name (pv 0)) (hv_of he_int) (fun _ _ => rfl))) hvs_nil))) hvs_nil)) (hg_name (pg_name (i := 1) sc__law_is_sheet.nd rfl (by first | exact .inl rfl | exact .inr rfl))) (hss_one (hs_if (ht_not (ht_val (he_fn (ok__law_is_line Fx) (hr.mono (by first | decide | omega)) (takes_of rfl rfl rfl rfl) (by rfl) Fx.g__law_is_line Fx.F__law_is_line.kp (kb__law_is_line_2_ Fx) (hc_cons (ga_val (he_sbs (hu_of hr) (hv_of (he_sbs (hu_of hr) (hv_name (pv 0)) (hv_of he_int) (fun _ _ => rfl))) (hv_name (pv 1)) (fun _ _ => rfl))) (hc_cons (ga_val (he_add (hv_of (he_sbs (hu_of hr) (hv_name (pv 0)) (hv_of he_int) (fun _ _ => rfl))) (hv_name (pv 1)))) hc_nil))))) (hss_one (hs_ret he_bl)) hss_nil)))
      (hss_cons (hs_if (ht_w (hw_or (ht_not (ht_val (he_callB (f := on2 fIsi) call_isi cIsi (by rfl) Fx.z_isinstance rfl (hvs_cons (hv_of (he_sbs (hu_of hr) (hv_name (pv 0)) (hv_of he_int) (fun _ _ => rfl))) (hvs_cons (hv_of (he_ty (by rfl) Fx.z_tuple rfl)) hvs_nil))))) (hw_or1 (ht_cmp (f := fGt) op_gt bGt (hv_of (he_callB (f := fLenU) (CallR.or call_len_seq (CallR.or call_len_str call_lenD)) cLenU (by rfl) Fx.z_len rfl (hvs_cons (hv_of (he_sbs (hu_of hr) (hv_name (pv 0)) (hv_of he_int) (fun _ _ => rfl))) hvs_nil))) (hv_of he_int) (nomark _))))) (hss_one (hs_ret he_bl)) hss_nil)
      (hss_one (hs_ret (he_cmp (f := fEq) (OpR.or op_eq (op_eqD hr.units)) bEq (hv_of (he_callB (f := fLenU) (CallR.or call_len_seq (CallR.or call_len_str call_lenD)) cLenU (by rfl) Fx.z_len rfl (hvs_cons (hv_of (he_lc (own := [("out", 2)]) (di := (iAny (dBin fIx (vS 0) (vT (dC (.int 2)))))) (t := (tName 2)) (dc := c1__law_is_sheet) (de := (dVar 2)) (pe_lc rfl sc__law_is_sheet.nd (hi_any (he_sbs (hu_of hr) (hv_name (pv 0)) (hv_of he_int) (fun _ _ => rfl))) (blkOk_by (own := [("out", 2)]) (N := sN__law_is_sheet) (sc := defScope s__law_is_sheet) (by decide +kernel)) (fun _ _ _ _ _ => (hg_name (pg_name (i := 2) sc__law_is_sheet.nd rfl (by first | exact .inl rfl | exact .inr rfl)))) (fun _ _ _ _ _ => (hts_one (ht_not (ht_val (he_fn (ok__law_is_int Fx) (hr.mono (by first | decide | omega)) takes0 (by rfl) Fx.g__law_is_int Fx.F__law_is_int.kp (kb__law_is_int_3_ Fx) (hc_cons (ga_name (pv 2)) (hc_cons (ga_val he_int) (hc_cons (ga_val (he_sub (hv_of (he_add (hv_of (he_sbs (hu_of hr) (hv_name (pv 0)) (hv_of he_int) (fun _ _ => rfl))) (hv_of (he_callB (f := fLenU) (CallR.or call_len_seq (CallR.or call_len_str call_lenD)) cLenU (by rfl) Fx.z_len rfl (hvs_cons (hv_of (he_sbs (hu_of hr) (hv_name (pv 0)) (hv_of he_int) (fun _ _ => rfl))) hvs_nil))))) (hv_of he_int))) hc_nil)))))))) (fun _ _ _ _ _ => (he_var (pv 2)))))) hvs_nil))) (hv_of he_int) (nomark _))))))))
theorem kb__law_faults_2_ : KB K Fx.fd__law_faults ["state", "sheet"] [] 2 0 [0, 1] := KB.of Fx.F__law_faults (fun _ _ _ _ _ _ us ws h0 h1 => match us, ws, h0, h1 with | [_, _], [], _, _ => rfl) (by decide)
abbrev e1__law_faults : En → Rs O :=
  (dTup (aCons (dVar 2) (aCons (dBin fAdd (vT (dBin fAdd (vT (dSl fSl (vS 3) oNone (oSome (vS 5)))) (vT (dTup (aCons (dVar 11) aNil))))) (vT (dSl fSl (vS 3) (oSome (vS 5)) oNone))) (aCons (dVar 4) aNil))))
abbrev e2__law_faults : En → Rs O :=
  (dTup (aCons (dVar 2) (aCons (dVar 3) (aCons (dVar 11) aNil))))
abbrev e3__law_faults : En → Rs O :=
  (dTup (aCons (dVar 11) (aCons (dVar 3) (aCons (dVar 4) aNil))))
abbrev e4__law_faults : En → Rs O :=
  (dTup (aCons (dVar 2) (aCons (dVar 11) (aCons (dVar 4) aNil))))
def b__law_faults : En → Out :=
  (sSeq (sAsg (dVar 1) (tTupl (tgCons (tName 2) (tgCons (tName 3) (tgCons (tName 4) tgNil)))))
  (sSeq (sAsg (dCallF d__law_take [0, 1] (cCons (gName 0) (cCons (gVal (dBin fAdd (vT (dCall fLenU (vCons (vS 3) vNil))) (vT (dC (.int 1))))) cNil))) (tName 5))
  (sSeq (sAsg (dBin fAdd (vS 2) (vS 5)) (tName 6))
  (sSeq (sAsg (dLst (aCons (dTup (aCons (dC (.str (Str.ofString "add"))) (aCons (dC (.int 0)) (aCons (dC (.int 0)) aNil)))) (aCons (dTup (aCons (dC (.str (Str.ofString "times"))) (aCons (dC (.int 0)) (aCons (dC (.int 0)) aNil)))) (aCons (dTup (aCons (dC (.str (Str.ofString "scale"))) (aCons (dC (.int 5)) (aCons (dC (.int 0)) (aCons (dUn fNeg (vT (dC (.int 7)))) aNil))))) (aCons (dTup (aCons (dC (.str (Str.ofString "add"))) (aCons (dVar 6) (aCons (dC (.int 0)) aNil)))) (aCons (dTup (aCons (dC (.str (Str.ofString "add"))) (aCons (dC (.int 0)) (aCons (dVar 6) aNil)))) (aCons (dTup (aCons (dC (.str (Str.ofString "times"))) (aCons (dVar 6) (aCons (dC (.int 0)) aNil)))) (aCons (dTup (aCons (dC (.str (Str.ofString "times"))) (aCons (dC (.int 0)) (aCons (dVar 6) aNil)))) (aCons (dTup (aCons (dC (.str (Str.ofString "scale"))) (aCons (dC (.int 1)) (aCons (dVar 6) (aCons (dC (.int 1)) aNil))))) aNil))))))))) (tName 7))
  (sSeq (sAsg (dBin fAdd (vS 7) (vT (dLst (aCons (dTup (aCons (dC (.str (Str.ofString "add"))) (aCons (dBin fSub (vS 6) (vT (dC (.int 1)))) (aCons (dBin fSub (vS 6) (vT (dC (.int 1)))) aNil)))) (aCons (dTup (aCons (dC (.str (Str.ofString "scale"))) (aCons (dC (.int 1)) (aCons (dBin fSub (vS 6) (vT (dC (.int 1)))) (aCons (dC (.int 1)) aNil))))) (aCons (dTup (aCons (dC (.str (Str.ofString "add"))) (aCons (dUn fNeg (vT (dC (.int 1)))) (aCons (dC (.int 0)) aNil)))) (aCons (dTup (aCons (dC (.str (Str.ofString "times"))) (aCons (dC (.int 0)) (aCons (dUn fNeg (vT (dC (.int 1)))) aNil)))) (aCons (dTup (aCons (dC (.str (Str.ofString "scale"))) (aCons (dC (.int 1)) (aCons (dUn fNeg (vT (dC (.int 1)))) (aCons (dC (.int 1)) aNil))))) (aCons (dTup (aCons (dC (.str (Str.ofString "Add"))) (aCons (dC (.int 0)) (aCons (dC (.int 0)) aNil)))) (aCons (dTup (aCons (dC (.str (Str.ofString ""))) (aCons (dC (.int 0)) (aCons (dC (.int 0)) aNil)))) (aCons (dTup (aCons (dC (.str (Str.ofString "minus"))) (aCons (dC (.int 0)) (aCons (dC (.int 0)) aNil)))) aNil))))))))))) (tName 7))
  (sSeq (sAsg (dBin fAdd (vS 7) (vT (dLst (aCons (dTup (aCons (dC (.str (Str.ofString "add"))) (aCons (dC (.int 0)) aNil))) (aCons (dTup (aCons (dC (.str (Str.ofString "add"))) (aCons (dC (.int 0)) (aCons (dC (.int 0)) (aCons (dC (.int 0)) aNil))))) (aCons (dTup (aCons (dC (.str (Str.ofString "times"))) (aCons (dC (.int 0)) aNil))) (aCons (dTup (aCons (dC (.str (Str.ofString "times"))) (aCons (dC (.int 0)) (aCons (dC (.int 0)) (aCons (dC (.int 0)) aNil))))) (aCons (dTup (aCons (dC (.str (Str.ofString "scale"))) (aCons (dC (.int 1)) (aCons (dC (.int 0)) aNil)))) (aCons (dTup (aCons (dC (.str (Str.ofString "scale"))) (aCons (dC (.int 1)) (aCons (dC (.int 0)) (aCons (dC (.int 1)) (aCons (dC (.int 1)) aNil)))))) (aCons (dTup (aCons (dC (.str (Str.ofString "add"))) (aCons (dC (.str (Str.ofString "0"))) (aCons (dC (.int 0)) aNil)))) (aCons (dTup (aCons (dC (.str (Str.ofString "times"))) (aCons (dC (.int 0)) (aCons (dTup (aCons (dC (.int 0)) aNil)) aNil)))) (aCons (dTup (aCons (dC (.str (Str.ofString "scale"))) (aCons (dC (.str (Str.ofString "1"))) (aCons (dC (.int 0)) (aCons (dC (.int 1)) aNil))))) aNil)))))))))))) (tName 7))
  (sSeq (sAsg (dBin fAdd (vS 7) (vT (dLst (aCons (dTup (aCons (dC (.str (Str.ofString "scale"))) (aCons (dC (.int 1)) (aCons (dC (.int 0)) (aCons (dC (.str (Str.ofString "1"))) aNil))))) (aCons (dTup (aCons (dC (.str (Str.ofString "scale"))) (aCons (dTup (aCons (dC (.int 1)) aNil)) (aCons (dC (.int 0)) (aCons (dC (.int 1)) aNil))))) (aCons (dTup aNil) (aCons (dC (.int 0)) (aCons (dC (.str (Str.ofString "add"))) (aCons (dC (.str (Str.ofString "add 0 0"))) (aCons (dTup (aCons (dC (.str (Str.ofString "add"))) aNil)) (aCons (dTup (aCons (dC (.int 0)) (aCons (dC (.int 0)) (aCons (dC (.int 0)) aNil)))) (aCons (dTup (aCons (dTup (aCons (dC (.str (Str.ofString "add"))) (aCons (dC (.int 0)) (aCons (dC (.int 0)) aNil)))) aNil)) (aCons (dTup (aCons (dC (.str (Str.ofString "scale"))) (aCons (dBin fPow (vT (dC (.int 10))) (vT (dC (.int 59)))) (aCons (dC (.int 0)) (aCons (dUn fNeg (vT (dBin fPow (vT (dC (.int 10))) (vT (dC (.int 59)))))) aNil))))) aNil))))))))))))) (tName 7))
  (sSeq (sAsg (dLc (iAny (dVar 7)) [11] (tName 11) dYes e1__law_faults) (tName 8))
  (sSeq (sAsg (dBin fAdd (vS 2) (vT (dCall fLenU (vCons (vS 3) vNil)))) (tName 9))
  (sSeq (sAsg (dLst (aCons (dBin fAdd (vS 4) (vT (dTup (aCons (dVar 9) aNil)))) (aCons (dBin fAdd (vS 4) (vT (dTup (aCons (dBin fSub (vS 9) (vT (dC (.int 1)))) aNil)))) (aCons (dBin fAdd (vS 4) (vT (dTup (aCons (dUn fNeg (vT (dC (.int 1)))) aNil)))) (aCons (dBin fAdd (vS 4) (vT (dTup (aCons (dC (.str (Str.ofString "0"))) aNil)))) (aCons (dBin fAdd (vS 4) (vT (dTup (aCons (dTup (aCons (dC (.int 0)) aNil)) aNil)))) (aCons (dBin fMul (vT (dTup (aCons (dC (.int 0)) aNil))) (vT (dC (.int 8)))) (aCons (dBin fMul (vT (dTup (aCons (dC (.int 0)) aNil))) (vT (dC (.int 9)))) (aCons (dTup aNil) (aCons (dC (.str (Str.ofString "0"))) (aCons (dC (.int 0)) (aCons (dBin fMul (vT (dTup (aCons (dBin fSub (vS 9) (vT (dC (.int 1)))) aNil))) (vT (dC (.int 8)))) (aCons (dTup (aCons (dVar 9) aNil)) (aCons (dUn fRevT (vS 4)) aNil)))))))))))))) (tName 10))
  (sSeq (sAsg (dBin fAdd (vT (dBin fAdd (vS 8) (vT (dLc (iAny (dVar 10)) [11] (tName 11) dYes e2__law_faults)))) (vT (dLc (iAny (dTup (aCons (dC (.int 0)) (aCons (dBin fAdd (vS 2) (vT (dC (.int 1)))) (aCons (dBin fSub (vS 2) (vT (dC (.int 1)))) (aCons (dC (.int 16)) (aCons (dC (.int 17)) (aCons (dUn fNeg (vT (dC (.int 1)))) (aCons (dC (.str (Str.ofString "2"))) (aCons (dTup (aCons (dC (.int 2)) aNil)) (aCons (dTup aNil) aNil))))))))))) [11] (tName 11) dYes e3__law_faults))) (tName 8))
  (sSeq (sAsg (dBin fAdd (vS 8) (vT (dLst (aCons (dTup (aCons (dC (.int 2)) (aCons (dBin fMul (vT (dTup (aCons (dTup (aCons (dC (.str (Str.ofString "add"))) (aCons (dC (.int 0)) (aCons (dC (.int 1)) aNil)))) aNil))) (vT (dC (.int 60)))) (aCons (dTup (aCons (dC (.int 61)) aNil)) aNil)))) (aCons (dTup (aCons (dC (.int 2)) (aCons (dBin fMul (vT (dTup (aCons (dTup (aCons (dC (.str (Str.ofString "add"))) (aCons (dC (.int 0)) (aCons (dC (.int 1)) aNil)))) aNil))) (vT (dC (.int 61)))) (aCons (dTup (aCons (dC (.int 0)) aNil)) aNil)))) (aCons (dTup (aCons (dC (.int 16)) (aCons (dBin fMul (vT (dTup (aCons (dTup (aCons (dC (.str (Str.ofString "times"))) (aCons (dC (.int 15)) (aCons (dC (.int 0)) aNil)))) aNil))) (vT (dC (.int 60)))) (aCons (dBin fMul (vT (dTup (aCons (dC (.int 75)) aNil))) (vT (dC (.int 8)))) aNil)))) (aCons (dTup (aCons (dC (.int 17)) (aCons (dTup aNil) (aCons (dTup aNil) aNil)))) (aCons (dTup (aCons (dC (.int 0)) (aCons (dTup aNil) (aCons (dTup aNil) aNil)))) (aCons (dTup (aCons (dC (.int 0)) (aCons (dTup aNil) (aCons (dTup (aCons (dC (.int 0)) aNil)) aNil)))) (aCons (dTup (aCons (dC (.int 16)) (aCons (dTup aNil) (aCons (dTup (aCons (dC (.int 15)) aNil)) aNil)))) aNil)))))))))) (tName 8))
  (sSeq (sAsg (dBin fAdd (vS 8) (vT (dLc (iAny (dTup (aCons (dTup aNil) (aCons (dC (.str (Str.ofString "add"))) (aCons (dC (.int 0)) (aCons (dUn fRevT (vS 3)) (aCons (dSl fSl (vS 3) (oSome (vT (dC (.int 1)))) oNone) (aCons (dBin fAdd (vS 3) (vS 3)) (aCons (dTup (aCons (dVar 3) aNil)) aNil))))))))) [11] (tName 11) dYes e4__law_faults))) (tName 8))
  (sRet (dBin fAdd (vS 8) (vT (dLst (aCons (dSl fSl (vS 1) oNone (oSome (vT (dC (.int 2))))) (aCons (dBin fAdd (vS 1) (vT (dTup (aCons (dTup aNil) aNil)))) (aCons (dTup aNil) (aCons (dC (.int 0)) (aCons (dC (.str (Str.ofString "sheet"))) (aCons (dC (.str (Str.ofString "abc"))) (aCons (dTup (aCons (dVar 1) aNil)) (aCons (dVar 3) (aCons (dTup (aCons (dVar 3) (aCons (dVar 2) (aCons (dVar 4) aNil)))) aNil))))))))))))))))))))))))))
def d__law_faults : Den := denFn [true, true] 12 b__law_faults
theorem R__law_faults {x0 x1 : O} {o : O} {e : En} {ps : List (Option O)} (h : b__law_faults [.p x0, .p x1, .no, .no, .no, .no, .no, .no, .no, .no, .no, .no] = .rt o e) (hp : outE 2 e = ps := by rfl) : d__law_faults [x0, x1] = .ok o ps := by
  show denFn [true, true] 12 b__law_faults [x0, x1] = _
  unfold denFn
  rw [show initE [true, true] [x0, x1] 12 = [.p x0, .p x1, .no, .no, .no, .no, .no, .no, .no, .no, .no, .no] from rfl, h, ← hp]; rfl
theorem ok__law_faults : FnOk P w K mg base (L2.CX P w) 3 Fx.a__law_faults Fx.fd__law_faults ["state", "sheet"] (spD ⟨K, Fx.cl.f, none⟩ 2 d__law_faults) := by
  refine fn_ok (cl := Fx.cl) (k := 2) rfl Fx.F__law_faults sc__law_faults rfl (by decide) fun cdv A outer s H E hr => ?_
  exact (show HSs _ _ _ _ b__law_faults from (hss_cons (hs_asg (ss := [2, 3, 4]) (he_var (pv 1)) (hg_tup rfl (hgs_cons (hg_name (pg_name (i := 2) sc__law_faults.nd rfl (by first | exact .inl rfl | exact .inr rfl))) (hgs_cons (hg_name (pg_name (i := 3) sc__law_faults.nd rfl (by first | exact .inl rfl | exact .inr rfl))) (hgs_cons (hg_name (pg_name (i := 4) sc__law_faults.nd rfl (by first | exact .inl rfl | exact .inr rfl))) hgs_nil))) (hlen := (tg_len (tg_len (tg_len tg_len0))))))
      (hss_cons (hs_asg (ss := [5]) (he_fn (ok__law_take Fx) (hr.mono (by first | decide | omega)) (takes_of rfl rfl rfl rfl) (by rfl) Fx.g__law_take Fx.F__law_take.kp (kb__law_take_2_ Fx) (hc_cons (ga_name (pv 0)) (hc_cons (ga_val (he_add (hv_of (he_callB (f := fLenU) (CallR.or call_len_seq (CallR.or call_len_str call_lenD)) cLenU (by rfl) Fx.z_len rfl (hvs_cons (hv_name (pv 3)) hvs_nil))) (hv_of he_int))) hc_nil))) (hg_name (pg_name (i := 5) sc__law_faults.nd rfl (by first | exact .inl rfl | exact .inr rfl))))
      (hss_cons (hs_asg (ss := [6]) (he_add (hv_name (pv 2)) (hv_name (pv 5))) (hg_name (pg_name (i := 6) sc__law_faults.nd rfl (by first | exact .inl rfl | exact .inr rfl))))
      (hss_cons (hs_asg (ss := [7]) (he_lst (ha_cons (he_tup (ha_cons he_str (ha_cons he_int (ha_cons he_int ha_nil)))) (ha_cons (he_tup (ha_cons he_str (ha_cons he_int (ha_cons he_int ha_nil)))) (ha_cons (he_tup (ha_cons he_str (ha_cons he_int (ha_cons he_int (ha_cons (he_un un_neg uNeg (hv_of he_int)) ha_nil))))) (ha_cons (he_tup (ha_cons he_str (ha_cons (he_var (pv 6)) (ha_cons he_int ha_nil)))) (ha_cons (he_tup (ha_cons he_str (ha_cons he_int (ha_cons (he_var (pv 6)) ha_nil)))) (ha_cons (he_tup (ha_cons he_str (ha_cons (he_var (pv 6)) (ha_cons he_int ha_nil)))) (ha_cons (he_tup (ha_cons he_str (ha_cons he_int (ha_cons (he_var (pv 6)) ha_nil)))) (ha_cons (he_tup (ha_cons he_str (ha_cons he_int (ha_cons (he_var (pv 6)) (ha_cons he_int ha_nil))))) ha_nil))))))))) (hg_name (pg_name (i := 7) sc__law_faults.nd rfl (by first | exact .inl rfl | exact .inr rfl))))
      (hss_cons (hs_asg (ss := [7]) (he_add (hv_name (pv 7)) (hv_of (he_lst (ha_cons (he_tup (ha_cons he_str (ha_cons (he_sub (hv_name (pv 6)) (hv_of he_int)) (ha_cons (he_sub (hv_name (pv 6)) (hv_of he_int)) ha_nil)))) (ha_cons (he_tup (ha_cons he_str (ha_cons he_int (ha_cons (he_sub (hv_name (pv 6)) (hv_of he_int)) (ha_cons he_int ha_nil))))) (ha_cons (he_tup (ha_cons he_str (ha_cons (he_un un_neg uNeg (hv_of he_int)) (ha_cons he_int ha_nil)))) (ha_cons (he_tup (ha_cons he_str (ha_cons he_int (ha_cons (he_un un_neg uNeg (hv_of he_int)) ha_nil)))) (ha_cons (he_tup (ha_cons he_str (ha_cons he_int (ha_cons (he_un un_neg uNeg (hv_of he_int)) (ha_cons he_int ha_nil))))) (ha_cons (he_tup (ha_cons he_str (ha_cons he_int (ha_cons he_int ha_nil)))) (ha_cons (he_tup (ha_cons he_str (ha_cons he_int (ha_cons he_int ha_nil)))) (ha_cons (he_tup (ha_cons he_str (ha_cons he_int (ha_cons he_int ha_nil)))) ha_nil))))))))))) (hg_name (pg_name (i := 7) sc__law_faults.nd rfl (by first | exact .inl rfl | exact .inr rfl))))
      (hss_cons (hs_asg (ss := [7]) (he_add (hv_name (pv 7)) (hv_of (he_lst (ha_cons (he_tup (ha_cons he_str (ha_cons he_int ha_nil))) (ha_cons (he_tup (ha_cons he_str (ha_cons he_int (ha_cons he_int (ha_cons he_int ha_nil))))) (ha_cons (he_tup (ha_cons he_str (ha_cons he_int ha_nil))) (ha_cons (he_tup (ha_cons he_str (ha_cons he_int (ha_cons he_int (ha_cons he_int ha_nil))))) (ha_cons (he_tup (ha_cons he_str (ha_cons he_int (ha_cons he_int ha_nil)))) (ha_cons (he_tup (ha_cons he_str (ha_cons he_int (ha_cons he_int (ha_cons he_int (ha_cons he_int ha_nil)))))) (ha_cons (he_tup (ha_cons he_str (ha_cons he_str (ha_cons he_int ha_nil)))) (ha_cons (he_tup (ha_cons he_str (ha_cons he_int (ha_cons (he_tup (ha_cons he_int ha_nil)) ha_nil)))) (ha_cons (he_tup (ha_cons he_str (ha_cons he_str (ha_cons he_int (ha_cons he_int ha_nil))))) ha_nil)))))))))))) (hg_name (pg_name (i := 7) sc__law_faults.nd rfl (by first | exact .inl rfl | exact .inr rfl))))
      (hss_cons (hs_asg (ss := [7]) (he_add (hv_name (pv 7)) (hv_of (he_lst (ha_cons (he_tup (ha_cons he_str (ha_cons he_int (ha_cons he_int (ha_cons he_str ha_nil))))) (ha_cons (he_tup (ha_cons he_str (ha_cons (he_tup (ha_cons he_int ha_nil)) (ha_cons he_int (ha_cons he_int ha_nil))))) (ha_cons (he_tup ha_nil) (ha_cons he_int (ha_cons he_str (ha_cons he_str (ha_cons (he_tup (ha_cons he_str ha_nil)) (ha_cons (he_tup (ha_cons he_int (ha_cons he_int (ha_cons he_int ha_nil)))) (ha_cons (he_tup (ha_cons (he_tup (ha_cons he_str (ha_cons he_int (ha_cons he_int ha_nil)))) ha_nil)) (ha_cons (he_tup (ha_cons he_str (ha_cons (he_pow (hv_of he_int) (hv_of he_int)) (ha_cons he_int (ha_cons (he_un un_neg uNeg (hv_of (he_pow (hv_of he_int) (hv_of he_int)))) ha_nil))))) ha_nil))))))))))))) (hg_name (pg_name (i := 7) sc__law_faults.nd rfl (by first | exact .inl rfl | exact .inr rfl))))
      (hss_cons (hs_setLc (own := [("new", 11)]) (di := (iAny (dVar 7))) (t := (tName 11)) (dc := dYes) (de := e1__law_faults) (ps_setLc (i := 8) rfl sc__law_faults.nd rfl rfl (sw_true rfl rfl rfl (by decide +kernel)) (hi_any (he_var (pv 7))) (blkOk_by (own := [("new", 11)]) (N := sN__law_faults) (sc := defScope s__law_faults) (by decide +kernel)) (fun _ _ _ _ _ => (hg_name (pg_name (i := 11) sc__law_faults.nd rfl (by first | exact .inl rfl | exact .inr rfl)))) (fun _ _ _ _ _ => hts_nil) (fun _ _ _ _ _ => (he_tup (ha_cons (he_var (pv 2)) (ha_cons (he_add (hv_of (he_add (hv_of (he_sl (hv_name (pv 3)) ho_none (ho_some (hv_name (pv 5))))) (hv_of (he_tup (ha_cons (he_var (pv 11)) ha_nil))))) (hv_of (he_sl (hv_name (pv 3)) (ho_some (hv_name (pv 5))) ho_none))) (ha_cons (he_var (pv 4)) ha_nil)))))))
      (hss_cons (hs_asg (ss := [9]) (he_add (hv_name (pv 2)) (hv_of (he_callB (f := fLenU) (CallR.or call_len_seq (CallR.or call_len_str call_lenD)) cLenU (by rfl) Fx.z_len rfl (hvs_cons (hv_name (pv 3)) hvs_nil)))) (hg_name (pg_name (i := 9) sc__law_faults.nd rfl (by first | exact .inl rfl | exact .inr rfl))))
      (hss_cons (hs_asg (ss := [10]) (he_lst (ha_cons (he_add (hv_name (pv 4)) (hv_of (he_tup (ha_cons (he_var (pv 9)) ha_nil)))) (ha_cons (he_add (hv_name (pv 4)) (hv_of (he_tup (ha_cons (he_sub (hv_name (pv 9)) (hv_of he_int)) ha_nil)))) (ha_cons (he_add (hv_name (pv 4)) (hv_of (he_tup (ha_cons (he_un un_neg uNeg (hv_of he_int)) ha_nil)))) (ha_cons (he_add (hv_name (pv 4)) (hv_of (he_tup (ha_cons he_str ha_nil)))) (ha_cons (he_add (hv_name (pv 4)) (hv_of (he_tup (ha_cons (he_tup (ha_cons he_int ha_nil)) ha_nil)))) (ha_cons (he_mul (hv_of (he_tup (ha_cons he_int ha_nil))) (hv_of he_int)) (ha_cons (he_mul (hv_of (he_tup (ha_cons he_int ha_nil))) (hv_of he_int)) (ha_cons (he_tup ha_nil) (ha_cons he_str (ha_cons he_int (ha_cons (he_mul (hv_of (he_tup (ha_cons (he_sub (hv_name (pv 9)) (hv_of he_int)) ha_nil))) (hv_of he_int)) (ha_cons (he_tup (ha_cons (he_var (pv 9)) ha_nil)) (ha_cons (he_rev (hv_name (pv 4))) ha_nil)))))))))))))) (hg_name (pg_name (i := 10) sc__law_faults.nd rfl (by first | exact .inl rfl | exact .inr rfl))))
      (hss_cons (hs_asg (ss := [8]) (he_add (hv_of (he_add (hv_name (pv 8)) (hv_of (he_lc (own := [("new", 11)]) (di := (iAny (dVar 10))) (t := (tName 11)) (dc := dYes) (de := e2__law_faults) (pe_lc rfl sc__law_faults.nd (hi_any (he_var (pv 10))) (blkOk_by (own := [("new", 11)]) (N := sN__law_faults) (sc := defScope s__law_faults) (by decide +kernel)) (fun _ _ _ _ _ => (hg_name (pg_name (i := 11) sc__law_faults.nd rfl (by first | exact .inl rfl | exact .inr rfl)))) (fun _ _ _ _ _ => hts_nil) (fun _ _ _ _ _ => (he_tup (ha_cons (he_var (pv 2)) (ha_cons (he_var (pv 3)) (ha_cons (he_var (pv 11)) ha_nil)))))))))) (hv_of (he_lc (own := [("new", 11)]) (di := (iAny (dTup (aCons (dC (.int 0)) (aCons (dBin fAdd (vS 2) (vT (dC (.int 1)))) (aCons (dBin fSub (vS 2) (vT (dC (.int 1)))) (aCons (dC (.int 16)) (aCons (dC (.int 17)) (aCons (dUn fNeg (vT (dC (.int 1)))) (aCons (dC (.str (Str.ofString "2"))) (aCons (dTup (aCons (dC (.int 2)) aNil)) (aCons (dTup aNil) aNil)))))))))))) (t := (tName 11)) (dc := dYes) (de := e3__law_faults) (pe_lc rfl sc__law_faults.nd (hi_any (he_tup (ha_cons he_int (ha_cons (he_add (hv_name (pv 2)) (hv_of he_int)) (ha_cons (he_sub (hv_name (pv 2)) (hv_of he_int)) (ha_cons he_int (ha_cons he_int (ha_cons (he_un un_neg uNeg (hv_of he_int)) (ha_cons he_str (ha_cons (he_tup (ha_cons he_int ha_nil)) (ha_cons (he_tup ha_nil) ha_nil))))))))))) (blkOk_by (own := [("new", 11)]) (N := sN__law_faults) (sc := defScope s__law_faults) (by decide +kernel)) (fun _ _ _ _ _ => (hg_name (pg_name (i := 11) sc__law_faults.nd rfl (by first | exact .inl rfl | exact .inr rfl)))) (fun _ _ _ _ _ => hts_nil) (fun _ _ _ _ _ => (he_tup (ha_cons (he_var (pv 11)) (ha_cons (he_var (pv 3)) (ha_cons (he_var (pv 4)) ha_nil))))))))) (hg_name (pg_name (i := 8) sc__law_faults.nd rfl (by first | exact .inl rfl | exact .inr rfl))))
      (hss_cons (hs_asg (ss := [8]) (he_add (hv_name (pv 8)) (hv_of (he_lst (ha_cons (he_tup (ha_cons he_int (ha_cons (he_mul (hv_of (he_tup (ha_cons (he_tup (ha_cons he_str (ha_cons he_int (ha_cons he_int ha_nil)))) ha_nil))) (hv_of he_int)) (ha_cons (he_tup (ha_cons he_int ha_nil)) ha_nil)))) (ha_cons (he_tup (ha_cons he_int (ha_cons (he_mul (hv_of (he_tup (ha_cons (he_tup (ha_cons he_str (ha_cons he_int (ha_cons he_int ha_nil)))) ha_nil))) (hv_of he_int)) (ha_cons (he_tup (ha_cons he_int ha_nil)) ha_nil)))) (ha_cons (he_tup (ha_cons he_int (ha_cons (he_mul (hv_of (he_tup (ha_cons (he_tup (ha_cons he_str (ha_cons he_int (ha_cons he_int ha_nil)))) ha_nil))) (hv_of he_int)) (ha_cons (he_mul (hv_of (he_tup (ha_cons he_int ha_nil))) (hv_of he_int)) ha_nil)))) (ha_cons (he_tup (ha_cons he_int (ha_cons (he_tup ha_nil) (ha_cons (he_tup ha_nil) ha_nil)))) (ha_cons (he_tup (ha_cons he_int (ha_cons (he_tup ha_nil) (ha_cons (he_tup ha_nil) ha_nil)))) (ha_cons (he_tup (ha_cons he_int (ha_cons (he_tup ha_nil) (ha_cons (he_tup (ha_cons he_int ha_nil)) ha_nil)))) (ha_cons (he_tup (ha_cons he_int (ha_cons (he_tup ha_nil) (ha_cons (he_tup (ha_cons he_int ha_nil)) ha_nil)))) ha_nil)))))))))) (hg_name (pg_name (i := 8) sc__law_faults.nd rfl (by first | exact .inl rfl | exact .inr rfl))))
      (hss_cons (hs_asg (ss := [8]) (he_add (hv_name (pv 8)) (hv_of (he_lc (own := [("new", 11)]) (di := (iAny (dTup (aCons (dTup aNil) (aCons (dC (.str (Str.ofString "add"))) (aCons (dC (.int 0)) (aCons (dUn fRevT (vS 3)) (aCons (dSl fSl (vS 3) (oSome (vT (dC (.int 1)))) oNone) (aCons (dBin fAdd (vS 3) (vS 3)) (aCons (dTup (aCons (dVar 3) aNil)) aNil)))))))))) (t := (tName 11)) (dc := dYes) (de := e4__law_faults) (pe_lc rfl sc__law_faults.nd (hi_any (he_tup (ha_cons (he_tup ha_nil) (ha_cons he_str (ha_cons he_int (ha_cons (he_rev (hv_name (pv 3))) (ha_cons (he_sl (hv_name (pv 3)) (ho_some (hv_of he_int)) ho_none) (ha_cons (he_add (hv_name (pv 3)) (hv_name (pv 3))) (ha_cons (he_tup (ha_cons (he_var (pv 3)) ha_nil)) ha_nil))))))))) (blkOk_by (own := [("new", 11)]) (N := sN__law_faults) (sc := defScope s__law_faults) (by decide +kernel)) (fun _ _ _ _ _ => (hg_name (pg_name (i := 11) sc__law_faults.nd rfl (by first | exact .inl rfl | exact .inr rfl)))) (fun _ _ _ _ _ => hts_nil) (fun _ _ _ _ _ => (he_tup (ha_cons (he_var (pv 2)) (ha_cons (he_var (pv 11)) (ha_cons (he_var (pv 4)) ha_nil))))))))) (hg_name (pg_name (i := 8) sc__law_faults.nd rfl (by first | exact .inl rfl | exact .inr rfl))))
      (hss_one (hs_ret (he_add (hv_name (pv 8)) (hv_of (he_lst (ha_cons (he_sl (hv_name (pv 1)) ho_none (ho_some (hv_of he_int))) (ha_cons (he_add (hv_name (pv 1)) (hv_of (he_tup (ha_cons (he_tup ha_nil) ha_nil)))) (ha_cons (he_tup ha_nil) (ha_cons he_int (ha_cons he_str (ha_cons he_str (ha_cons (he_tup (ha_cons (he_var (pv 1)) ha_nil)) (ha_cons (he_var (pv 3)) (ha_cons (he_tup (ha_cons (he_var (pv 3)) (ha_cons (he_var (pv 2)) (ha_cons (he_var (pv 4)) ha_nil)))) ha_nil))))))))))))))))))))))))))))
theorem kb_is_number_1_ : KB K Fx.fd_is_number ["value"] [] 1 0 [0] := KB.of Fx.F_is_number (fun _ _ _ _ _ _ us ws h0 h1 => match us, ws, h0, h1 with | [_], [], _, _ => rfl) (by decide)
def b_is_number : En → Out :=
  (sRet (dAndV (dCall (on2 fIsi) (vCons (vS 0) (vCons (vT (dC (.ty "int"))) vNil))) (dAndV (dNotV (dCall (on2 fIsi) (vCons (vS 0) (vCons (vT (dC (.ty "bool"))) vNil)))) (dChain fLt fLt (vT (dUn fNeg (vT (dC (.int 1000000000000000000000000000000000000000000000000000000000000))))) (vS 0) (vT (dC (.int 1000000000000000000000000000000000000000000000000000000000000)))))))
def d_is_number : Den := denFn [true] 1 b_is_number
theorem R_is_number {x0 : O} {o : O} {e : En} {ps : List (Option O)} (h : b_is_number [.p x0] = .rt o e) (hp : outE 1 e = ps := by rfl) : d_is_number [x0] = .ok o ps := by
  show denFn [true] 1 b_is_number [x0] = _
  unfold denFn
  rw [show initE [true] [x0] 1 = [.p x0] from rfl, h, ← hp]; rfl
theorem ok_is_number : FnOk P w K mg base (L2.CX P w) 1 Fx.a_is_number Fx.fd_is_number ["value"] (spD ⟨K, Fx.cl.f, none⟩ 1 d_is_number) := by
  refine fn_ok (cl := Fx.cl) (k := 0) rfl Fx.F_is_number sc_is_number rfl (by decide) fun cdv A outer s H E hr => ?_
  exact (show HSs _ _ _ _ b_is_number from (hss_one (hs_ret (he_and (he_callB (f := on2 fIsi) call_isi cIsi (by rfl) Fx.z_isinstance rfl (hvs_cons (hv_name (pv 0)) (hvs_cons (hv_of (he_ty (by rfl) Fx.z_int rfl)) hvs_nil))) (he_and (he_not (he_callB (f := on2 fIsi) call_isi cIsi (by rfl) Fx.z_isinstance rfl (hvs_cons (hv_name (pv 0)) (hvs_cons (hv_of (he_ty (by rfl) Fx.z_bool rfl)) hvs_nil)))) (he_one (he_chain op_lt op_lt bLt bLt (pe_chain op_lt op_lt (hv_of (he_un un_neg uNeg (hv_of (he_gint (by rfl) Fx.gi_MOST_NUMBER)))) (hv_name (pv 0)) (hv_of (he_gint (by rfl) Fx.gi_MOST_NUMBER))))))))))
theorem kb_is_wire_2_ : KB K Fx.fd_is_wire ["value", "wires"] [] 2 0 [0, 1] := KB.of Fx.F_is_wire (fun _ _ _ _ _ _ us ws h0 h1 => match us, ws, h0, h1 with | [_, _], [], _, _ => rfl) (by decide)
def b_is_wire : En → Out :=
  (sRet (dAndV (dCallF d_is_number [0] (cCons (gName 0) cNil)) (dChain fLe fLt (vT (dC (.int 0))) (vS 0) (vS 1))))
def d_is_wire : Den := denFn [true, true] 2 b_is_wire
theorem R_is_wire {x0 x1 : O} {o : O} {e : En} {ps : List (Option O)} (h : b_is_wire [.p x0, .p x1] = .rt o e) (hp : outE 2 e = ps := by rfl) : d_is_wire [x0, x1] = .ok o ps := by
  show denFn [true, true] 2 b_is_wire [x0, x1] = _
  unfold denFn
  rw [show initE [true, true] [x0, x1] 2 = [.p x0, .p x1] from rfl, h, ← hp]; rfl
theorem ok_is_wire : FnOk P w K mg base (L2.CX P w) 2 Fx.a_is_wire Fx.fd_is_wire ["value", "wires"] (spD ⟨K, Fx.cl.f, none⟩ 2 d_is_wire) := by
  refine fn_ok (cl := Fx.cl) (k := 1) rfl Fx.F_is_wire sc_is_wire rfl (by decide) fun cdv A outer s H E hr => ?_
  exact (show HSs _ _ _ _ b_is_wire from (hss_one (hs_ret (he_and (he_fn (ok_is_number Fx) (hr.mono (by first | decide | omega)) (takes_of rfl rfl rfl rfl) (by rfl) Fx.g_is_number Fx.F_is_number.kp (kb_is_number_1_ Fx) (hc_cons (ga_name (pv 0)) hc_nil)) (he_one (he_chain op_le op_lt bLe bLt (pe_chain op_le op_lt (hv_of he_int) (hv_name (pv 0)) (hv_name (pv 1)))))))))
theorem kb_is_line_2_ : KB K Fx.fd_is_line ["value", "wires"] [] 2 0 [0, 1] := KB.of Fx.F_is_line (fun _ _ _ _ _ _ us ws h0 h1 => match us, ws, h0, h1 with | [_, _], [], _, _ => rfl) (by decide)
def b_is_line : En → Out :=
  (sSeq (sIf (dOrT (dNotT (dTst (dCall (on2 fIsi) (vCons (vS 0) (vCons (vT (dC (.ty "tuple"))) vNil))))) (dTst (dBin fNinW (vT (dCall fLenU (vCons (vS 0) vNil))) (vT (dTup (aCons (dC (.int 3)) (aCons (dC (.int 4)) aNil))))))) (sRet (dC (.bl false))) sNext)
  (sSeq (sIf (dTst (dBin fEq (vT (dCall fLenU (vCons (vS 0) vNil))) (vT (dC (.int 4))))) (sRet (dAndV (dBin fEq (vT (dBin fIx (vS 0) (vT (dC (.int 0))))) (vT (dC (.str (Str.ofString "scale"))))) (dAndV (dCallF d_is_number [0] (cCons (gVal (dBin fIx (vS 0) (vT (dC (.int 1))))) cNil)) (dAndV (dCallF d_is_wire [0, 1] (cCons (gVal (dBin fIx (vS 0) (vT (dC (.int 2))))) (cCons (gName 1) cNil))) (dCallF d_is_number [0] (cCons (gVal (dBin fIx (vS 0) (vT (dC (.int 3))))) cNil)))))) sNext)
  (sRet (dAndV (dBin fInW (vT (dBin fIx (vS 0) (vT (dC (.int 0))))) (vT (dTup (aCons (dC (.str (Str.ofString "add"))) (aCons (dC (.str (Str.ofString "times"))) aNil))))) (dAndV (dCallF d_is_wire [0, 1] (cCons (gVal (dBin fIx (vS 0) (vT (dC (.int 1))))) (cCons (gName 1) cNil))) (dCallF d_is_wire [0, 1] (cCons (gVal (dBin fIx (vS 0) (vT (dC (.int 2))))) (cCons (gName 1) cNil))))))))
def d_is_line : Den := denFn [true, true] 2 b_is_line
theorem R_is_line {x0 x1 : O} {o : O} {e : En} {ps : List (Option O)} (h : b_is_line [.p x0, .p x1] = .rt o e) (hp : outE 2 e = ps := by rfl) : d_is_line [x0, x1] = .ok o ps := by
  show denFn [true, true] 2 b_is_line [x0, x1] = _
  unfold denFn
  rw [show initE [true, true] [x0, x1] 2 = [.p x0, .p x1] from rfl, h, ← hp]; rfl
theorem ok_is_line : FnOk P w K mg base (L2.CX P w) 3 Fx.a_is_line Fx.fd_is_line ["value", "wires"] (spD ⟨K, Fx.cl.f, none⟩ 2 d_is_line) := by
  refine fn_ok (cl := Fx.cl) (k := 2) rfl Fx.F_is_line sc_is_line rfl (by decide) fun cdv A outer s H E hr => ?_
  exact (show HSs _ _ _ _ b_is_line from (hss_cons (hs_if (ht_w (hw_or (ht_not (ht_val (he_callB (f := on2 fIsi) call_isi cIsi (by rfl) Fx.z_isinstance rfl (hvs_cons (hv_name (pv 0)) (hvs_cons (hv_of (he_ty (by rfl) Fx.z_tuple rfl)) hvs_nil))))) (hw_or1 (ht_cmp (f := fNinW) (OpR.or (OpR.or op_notIn_seq (op_notIn_dk (hu_of hr))) (OpR.or (op_notInD (hu65 hr)) (op_notInDT (hu65 hr)))) (BinOk.or (BinOk.or bNin bDnin) bNinP) (hv_of (he_callB (f := fLenU) (CallR.or call_len_seq (CallR.or call_len_str call_lenD)) cLenU (by rfl) Fx.z_len rfl (hvs_cons (hv_name (pv 0)) hvs_nil))) (hv_of (he_tup (ha_cons he_int (ha_cons he_int ha_nil)))) (by rfl))))) (hss_one (hs_ret he_bl)) hss_nil)
      (hss_cons (hs_if (ht_cmp (f := fEq) (OpR.or op_eq (op_eqD hr.units)) bEq (hv_of (he_callB (f := fLenU) (CallR.or call_len_seq (CallR.or call_len_str call_lenD)) cLenU (by rfl) Fx.z_len rfl (hvs_cons (hv_name (pv 0)) hvs_nil))) (hv_of he_int) (nomark _)) (hss_one (hs_ret (he_and (he_cmp (f := fEq) (OpR.or op_eq (op_eqD hr.units)) bEq (hv_of (he_sbs (hu_of hr) (hv_name (pv 0)) (hv_of he_int) (fun _ _ => rfl))) (hv_of he_str) (nomark _)) (he_and (he_fn (ok_is_number Fx) (hr.mono (by first | decide | omega)) (takes_of rfl rfl rfl rfl) (by rfl) Fx.g_is_number Fx.F_is_number.kp (kb_is_number_1_ Fx) (hc_cons (ga_val (he_sbs (hu_of hr) (hv_name (pv 0)) (hv_of he_int) (fun _ _ => rfl))) hc_nil)) (he_and (he_fn (ok_is_wire Fx) (hr.mono (by first | decide | omega)) (takes_of rfl rfl rfl rfl) (by rfl) Fx.g_is_wire Fx.F_is_wire.kp (kb_is_wire_2_ Fx) (hc_cons (ga_val (he_sbs (hu_of hr) (hv_name (pv 0)) (hv_of he_int) (fun _ _ => rfl))) (hc_cons (ga_name (pv 1)) hc_nil))) (he_one (he_fn (ok_is_number Fx) (hr.mono (by first | decide | omega)) (takes_of rfl rfl rfl rfl) (by rfl) Fx.g_is_number Fx.F_is_number.kp (kb_is_number_1_ Fx) (hc_cons (ga_val (he_sbs (hu_of hr) (hv_name (pv 0)) (hv_of he_int) (fun _ _ => rfl))) hc_nil)))))))) hss_nil)
      (hss_one (hs_ret (he_and (he_cmp (f := fInW) (OpR.or (OpR.or op_in_seq (op_in_dk (hu_of hr))) (OpR.or (op_inD (hu65 hr)) (op_inDT (hu65 hr)))) (BinOk.or (BinOk.or bIn bDin) bInP) (hv_of (he_sbs (hu_of hr) (hv_name (pv 0)) (hv_of he_int) (fun _ _ => rfl))) (hv_of (he_tup (ha_cons he_str (ha_cons he_str ha_nil)))) (by rfl)) (he_and (he_fn (ok_is_wire Fx) (hr.mono (by first | decide | omega)) (takes_of rfl rfl rfl rfl) (by rfl) Fx.g_is_wire Fx.F_is_wire.kp (kb_is_wire_2_ Fx) (hc_cons (ga_val (he_sbs (hu_of hr) (hv_name (pv 0)) (hv_of he_int) (fun _ _ => rfl))) (hc_cons (ga_name (pv 1)) hc_nil))) (he_one (he_fn (ok_is_wire Fx) (hr.mono (by first | decide | omega)) (takes_of rfl rfl rfl rfl) (by rfl) Fx.g_is_wire Fx.F_is_wire.kp (kb_is_wire_2_ Fx) (hc_cons (ga_val (he_sbs (hu_of hr) (hv_name (pv 0)) (hv_of he_int) (fun _ _ => rfl))) (hc_cons (ga_name (pv 1)) hc_nil)))))))))))
theorem kb_is_sheet_1_ : KB K Fx.fd_is_sheet ["value"] [] 1 0 [0] := KB.of Fx.F_is_sheet (fun _ _ _ _ _ _ us ws h0 h1 => match us, ws, h0, h1 with | [_], [], _, _ => rfl) (by decide)
abbrev e1_is_sheet : En → Rs O :=
  (dCallF d_is_line [0, 1] (cCons (gName 6) (cCons (gVal (dBin fAdd (vS 1) (vS 5))) cNil)))
abbrev e2_is_sheet : En → Rs O :=
  (dCallF d_is_wire [0, 1] (cCons (gName 4) (cCons (gVal (dBin fAdd (vS 1) (vT (dCall fLenU (vCons (vS 2) vNil))))) cNil)))
def b_is_sheet : En → Out :=
  (sSeq (sIf (dOrT (dNotT (dTst (dCall (on2 fIsi) (vCons (vS 0) (vCons (vT (dC (.ty "tuple"))) vNil))))) (dTst (dBin fNe (vT (dCall fLenU (vCons (vS 0) vNil))) (vT (dC (.int 3)))))) (sRet (dC (.bl false))) sNext)
  (sSeq (sAsg (dVar 0) (tTupl (tgCons (tName 1) (tgCons (tName 2) (tgCons (tName 3) tgNil)))))
  (sSeq (sIf (dOrT (dNotT (dTst (dCallF d_is_number [0] (cCons (gName 1) cNil)))) (dNotT (dTst (dChain fLe fLe (vT (dC (.int 0))) (vS 1) (vT (dC (.int 16))))))) (sRet (dC (.bl false))) sNext)
  (sSeq (sIf (dOrT (dNotT (dTst (dCall (on2 fIsi) (vCons (vS 2) (vCons (vT (dC (.ty "tuple"))) vNil))))) (dOrT (dTst (dBin fGt (vT (dCall fLenU (vCons (vS 2) vNil))) (vT (dC (.int 60))))) (dOrT (dNotT (dTst (dCall (on2 fIsi) (vCons (vS 3) (vCons (vT (dC (.ty "tuple"))) vNil))))) (dTst (dBin fGt (vT (dCall fLenU (vCons (vS 3) vNil))) (vT (dC (.int 8)))))))) (sRet (dC (.bl false))) sNext)
  (sSeq (sIf (dNotT (dTst (dCall (on1 fAll) (vCons (vT (dLc (iAr (aCons (dVar 2) aNil) gEnum) [5, 6] (tTupl (tgCons (tName 5) (tgCons (tName 6) tgNil))) dYes e1_is_sheet)) vNil)))) (sRet (dC (.bl false))) sNext)
  (sRet (dCall (on1 fAll) (vCons (vT (dLc (iAny (dVar 3)) [4] (tName 4) dYes e2_is_sheet)) vNil))))))))
def d_is_sheet : Den := denFn [true] 7 b_is_sheet
theorem R_is_sheet {x0 : O} {o : O} {e : En} {ps : List (Option O)} (h : b_is_sheet [.p x0, .no, .no, .no, .no, .no, .no] = .rt o e) (hp : outE 1 e = ps := by rfl) : d_is_sheet [x0] = .ok o ps := by
  show denFn [true] 7 b_is_sheet [x0] = _
  unfold denFn
  rw [show initE [true] [x0] 7 = [.p x0, .no, .no, .no, .no, .no, .no] from rfl, h, ← hp]; rfl
theorem ok_is_sheet : FnOk P w K mg base (L2.CX P w) 4 Fx.a_is_sheet Fx.fd_is_sheet ["value"] (spD ⟨K, Fx.cl.f, none⟩ 1 d_is_sheet) := by
  refine fn_ok (cl := Fx.cl) (k := 3) rfl Fx.F_is_sheet sc_is_sheet rfl (by decide) fun cdv A outer s H E hr => ?_
  exact (show HSs _ _ _ _ b_is_sheet from (hss_cons (hs_if (ht_w (hw_or (ht_not (ht_val (he_callB (f := on2 fIsi) call_isi cIsi (by rfl) Fx.z_isinstance rfl (hvs_cons (hv_name (pv 0)) (hvs_cons (hv_of (he_ty (by rfl) Fx.z_tuple rfl)) hvs_nil))))) (hw_or1 (ht_cmp (f := fNe) (OpR.or op_ne (op_neD hr.units)) bNe (hv_of (he_callB (f := fLenU) (CallR.or call_len_seq (CallR.or call_len_str call_lenD)) cLenU (by rfl) Fx.z_len rfl (hvs_cons (hv_name (pv 0)) hvs_nil))) (hv_of he_int) (nomark _))))) (hss_one (hs_ret he_bl)) hss_nil)
      (hss_cons (hs_asg (ss := [1, 2, 3]) (he_var (pv 0)) (hg_tup rfl (hgs_cons (hg_name (pg_name (i := 1) sc_is_sheet.nd rfl (by first | exact .inl rfl | exact .inr rfl))) (hgs_cons (hg_name (pg_name (i := 2) sc_is_sheet.nd rfl (by first | exact .inl rfl | exact .inr rfl))) (hgs_cons (hg_name (pg_name (i := 3) sc_is_sheet.nd rfl (by first | exact .inl rfl | exact .inr rfl))) hgs_nil))) (hlen := (tg_len (tg_len (tg_len tg_len0))))))
      (hss_cons (hs_if (ht_w (hw_or (ht_not (ht_val (he_fn (ok_is_number Fx) (hr.mono (by first | decide | omega)) (takes_of rfl rfl rfl rfl) (by rfl) Fx.g_is_number Fx.F_is_number.kp (kb_is_number_1_ Fx) (hc_cons (ga_name (pv 1)) hc_nil)))) (hw_or1 (ht_not (ht_chain op_le op_le bLe bLe (pt_chain op_le op_le (hv_of he_int) (hv_name (pv 1)) (hv_of (he_gint (by rfl) Fx.gi_MOST_INPUTS)))))))) (hss_one (hs_ret he_bl)) hss_nil)
      (hss_cons (hs_if (ht_w (hw_or (ht_not (ht_val (he_callB (f := on2 fIsi) call_isi cIsi (by rfl) Fx.z_isinstance rfl (hvs_cons (hv_name (pv 2)) (hvs_cons (hv_of (he_ty (by rfl) Fx.z_tuple rfl)) hvs_nil))))) (hw_or (ht_cmp (f := fGt) op_gt bGt (hv_of (he_callB (f := fLenU) (CallR.or call_len_seq (CallR.or call_len_str call_lenD)) cLenU (by rfl) Fx.z_len rfl (hvs_cons (hv_name (pv 2)) hvs_nil))) (hv_of (he_gint (by rfl) Fx.gi_MOST_LINES)) (nomark _)) (hw_or (ht_not (ht_val (he_callB (f := on2 fIsi) call_isi cIsi (by rfl) Fx.z_isinstance rfl (hvs_cons (hv_name (pv 3)) (hvs_cons (hv_of (he_ty (by rfl) Fx.z_tuple rfl)) hvs_nil))))) (hw_or1 (ht_cmp (f := fGt) op_gt bGt (hv_of (he_callB (f := fLenU) (CallR.or call_len_seq (CallR.or call_len_str call_lenD)) cLenU (by rfl) Fx.z_len rfl (hvs_cons (hv_name (pv 3)) hvs_nil))) (hv_of (he_gint (by rfl) Fx.gi_MOST_OUTS)) (nomark _))))))) (hss_one (hs_ret he_bl)) hss_nil)
      (hss_cons (hs_if (ht_not (ht_val (he_callB (f := on1 fAll) (cr_all rfl) cAll (by rfl) Fx.z_all rfl (hvs_cons (hv_of (he_lc (own := [("at", 5), ("line", 6)]) (di := (iAr (aCons (dVar 2) aNil) gEnum)) (t := (tTupl (tgCons (tName 5) (tgCons (tName 6) tgNil)))) (dc := dYes) (de := e1_is_sheet) (pe_lc rfl sc_is_sheet.nd (hi_enum (by rfl) Fx.z_enumerate (ha_cons (he_var (pv 2)) ha_nil)) (blkOk_by (own := [("at", 5), ("line", 6)]) (N := sN_is_sheet) (sc := defScope s_is_sheet) (by decide +kernel)) (fun _ _ _ _ _ => (hg_tup rfl (hgs_cons (hg_name (pg_name (i := 5) sc_is_sheet.nd rfl (by first | exact .inl rfl | exact .inr rfl))) (hgs_cons (hg_name (pg_name (i := 6) sc_is_sheet.nd rfl (by first | exact .inl rfl | exact .inr rfl))) hgs_nil)) (hlen := (tg_len (tg_len tg_len0))))) (fun _ _ _ _ _ => hts_nil) (fun _ _ _ _ _ => (he_fn (ok_is_line Fx) (hr.mono (by first | decide | omega)) takes0 (by rfl) Fx.g_is_line Fx.F_is_line.kp (kb_is_line_2_ Fx) (hc_cons (ga_name (pv 6)) (hc_cons (ga_val (he_add (hv_name (pv 1)) (hv_name (pv 5)))) hc_nil))))))) hvs_nil)))) (hss_one (hs_ret he_bl)) hss_nil)
      (hss_one (hs_ret (he_callB (f := on1 fAll) (cr_all rfl) cAll (by rfl) Fx.z_all rfl (hvs_cons (hv_of (he_lc (own := [("wire", 4)]) (di := (iAny (dVar 3))) (t := (tName 4)) (dc := dYes) (de := e2_is_sheet) (pe_lc rfl sc_is_sheet.nd (hi_any (he_var (pv 3))) (blkOk_by (own := [("wire", 4)]) (N := sN_is_sheet) (sc := defScope s_is_sheet) (by decide +kernel)) (fun _ _ _ _ _ => (hg_name (pg_name (i := 4) sc_is_sheet.nd rfl (by first | exact .inl rfl | exact .inr rfl)))) (fun _ _ _ _ _ => hts_nil) (fun _ _ _ _ _ => (he_fn (ok_is_wire Fx) (hr.mono (by first | decide | omega)) takes0 (by rfl) Fx.g_is_wire Fx.F_is_wire.kp (kb_is_wire_2_ Fx) (hc_cons (ga_name (pv 4)) (hc_cons (ga_val (he_add (hv_name (pv 1)) (hv_of (he_callB (f := fLenU) (CallR.or call_len_seq (CallR.or call_len_str call_lenD)) cLenU (by rfl) Fx.z_len rfl (hvs_cons (hv_name (pv 2)) hvs_nil))))) hc_nil))))))) hvs_nil))))))))))
theorem kb_check_sheet_0_value : KB K Fx.fd_check_sheet ["value"] ["value"] 0 1 [0] := KB.of Fx.F_check_sheet (fun _ _ _ _ _ _ us ws h0 h1 => match us, ws, h0, h1 with | [], [_], _, _ => rfl) (by decide)
theorem kb_check_sheet_1_ : KB K Fx.fd_check_sheet ["value"] [] 1 0 [0] := KB.of Fx.F_check_sheet (fun _ _ _ _ _ _ us ws h0 h1 => match us, ws, h0, h1 with | [_], [], _, _ => rfl) (by decide)
def b_check_sheet : En → Out :=
  (sIf (dNotT (dTst (dCallF d_is_sheet [0] (cCons (gName 0) cNil)))) (sRaise "BadSheet") sNext)
def d_check_sheet : Den := denFn [true] 1 b_check_sheet
theorem N_check_sheet {x0 : O} {e : En} {ps : List (Option O)} (h : b_check_sheet [.p x0] = .nx e) (hp : outE 1 e = ps := by rfl) : d_check_sheet [x0] = .ok (.d .non) ps := by
  show denFn [true] 1 b_check_sheet [x0] = _
  unfold denFn
  rw [show initE [true] [x0] 1 = [.p x0] from rfl, h, ← hp]; rfl
theorem X_check_sheet {x0 : O} {c : String} {pl : List (Str × D)} {e : En} {ps : List (Option O)} (h : b_check_sheet [.p x0] = .exc c pl e) (hp : outE 1 e = ps := by rfl) : d_check_sheet [x0] = .exc c pl ps := by
  show denFn [true] 1 b_check_sheet [x0] = _
  unfold denFn
  rw [show initE [true] [x0] 1 = [.p x0] from rfl, h, ← hp]; rfl
theorem ok_check_sheet : FnOk P w K mg base (L2.CX P w) 5 Fx.a_check_sheet Fx.fd_check_sheet ["value"] (spD ⟨K, Fx.cl.f, none⟩ 1 d_check_sheet) := by
  refine fn_ok (cl := Fx.cl) (k := 4) rfl Fx.F_check_sheet sc_check_sheet rfl (by decide) fun cdv A outer s H E hr => ?_
  exact (show HSs _ _ _ _ b_check_sheet from (hss_one (hs_if (ht_not (ht_val (he_fn (ok_is_sheet Fx) (hr.mono (by first | decide | omega)) (takes_of rfl rfl rfl rfl) (by rfl) Fx.g_is_sheet Fx.F_is_sheet.kp (kb_is_sheet_1_ Fx) (hc_cons (ga_name (pv 0)) hc_nil)))) (hss_one (hs_raise (c := "BadSheet") rfl (takes_of rfl rfl rfl rfl) (pmk_own0 PySem.F.excBase_ValueError Fx.q_BadSheet Fx.gc_BadSheet Fx.k_BadSheet (raises_own Fx.b_BadSheet Fx.t_BadSheet) (by rfl)) Fx.cl_BadSheet)) hss_nil)))
theorem kb__law_checked_2_ : KB K Fx.fd__law_checked ["value", "by_name"] [] 2 0 [0, 1] := KB.of Fx.F__law_checked (fun _ _ _ _ _ _ us ws h0 h1 => match us, ws, h0, h1 with | [_, _], [], _, _ => rfl) (by decide)
def b__law_checked : En → Out :=
  (sTryM (sSeq (sAsg (dIf (dTst (dVar 1)) (dCallF d_check_sheet [0] (cCons (gName 0) cNil)) (dCallF d_check_sheet [0] (cCons (gName 0) cNil))) (tName 2))
  (sRet (dIf (dTst (dBin fIsN (vS 2) (vT (dC .non)))) (dC (.str (Str.ofString "right"))) (dC (.str (Str.ofString "else")))))) [(sub_c "BadSheet", fun _ => (sRet (dC (.str (Str.ofString "wrong")))))])
def d__law_checked : Den := denFn [true, true] 3 b__law_checked
theorem R__law_checked {x0 x1 : O} {o : O} {e : En} {ps : List (Option O)} (h : b__law_checked [.p x0, .p x1, .no] = .rt o e) (hp : outE 2 e = ps := by rfl) : d__law_checked [x0, x1] = .ok o ps := by
  show denFn [true, true] 3 b__law_checked [x0, x1] = _
  unfold denFn
  rw [show initE [true, true] [x0, x1] 3 = [.p x0, .p x1, .no] from rfl, h, ← hp]; rfl
theorem ok__law_checked : FnOk P w K mg base (L2.CX P w) 6 Fx.a__law_checked Fx.fd__law_checked ["value", "by_name"] (spD ⟨K, Fx.cl.f, none⟩ 2 d__law_checked) := by
  refine fn_ok (cl := Fx.cl) (k := 5) rfl Fx.F__law_checked sc__law_checked rfl (by decide) fun cdv A outer s H E hr => ?_
  exact (show HSs _ _ _ _ b__law_checked from (hss_one (hs_try rfl rfl (takes_of rfl rfl rfl rfl) (fun W1 pn1 xe1 tk1 po1 => (hss_cons (hs_asg (ss := [2]) (he_if (ht_val (he_var (pv 1))) (he_fnK0 (ok_check_sheet Fx) (hr.mono (by first | decide | omega)) tk1 (by rfl) Fx.g_check_sheet Fx.F_check_sheet.kp (kb_check_sheet_0_value Fx) (hck_cons (ga_name (pv 0)) hck_nil)) (he_fn (ok_check_sheet Fx) (hr.mono (by first | decide | omega)) tk1 (by rfl) Fx.g_check_sheet Fx.F_check_sheet.kp (kb_check_sheet_1_ Fx) (hc_cons (ga_name (pv 0)) hc_nil))) (hg_name (pg_name (i := 2) sc__law_checked.nd rfl (by first | exact .inl rfl | exact .inr rfl))))
      (hss_one (hs_ret (he_if (ht_cmp (f := fIsN) op_isN bIsN (hv_name (pv 2)) (hv_of he_non) (nomark _)) he_str he_str))))) (HHs.cons (sub := sub_c "BadSheet") (hd := fun _ => (sRet (dC (.str (Str.ofString "wrong"))))) (Fx.nm_BadSheet (by rfl)) Fx.sub_BadSheet (fun c C a oe d pn hc hz hf => (hss_one (hs_ret he_str))) HHs.nil))))
theorem kb_product_lines_1_ : KB K Fx.fd_product_lines ["sheet"] [] 1 0 [0] := KB.of Fx.F_product_lines (fun _ _ _ _ _ _ us ws h0 h1 => match us, ws, h0, h1 with | [_], [], _, _ => rfl) (by decide)
abbrev e1_product_lines : En → Rs O :=
  (dTup (aCons (dBin fAdd (vS 1) (vS 4)) (aCons (dVar 5) aNil)))
abbrev c1_product_lines : En → Rs Bool :=
  (dTst (dBin fEq (vT (dBin fIx (vS 5) (vT (dC (.int 0))))) (vT (dC (.str (Str.ofString "times"))))))
def b_product_lines : En → Out :=
  (sSeq (sAsg (dVar 0) (tTupl (tgCons (tName 1) (tgCons (tName 2) (tgCons (tName 3) tgNil)))))
  (sRet (dLc (iAr (aCons (dVar 2) aNil) gEnum) [4, 5] (tTupl (tgCons (tName 4) (tgCons (tName 5) tgNil))) c1_product_lines e1_product_lines)))
def d_product_lines : Den := denFn [true] 6 b_product_lines
theorem R_product_lines {x0 : O} {o : O} {e : En} {ps : List (Option O)} (h : b_product_lines [.p x0, .no, .no, .no, .no, .no] = .rt o e) (hp : outE 1 e = ps := by rfl) : d_product_lines [x0] = .ok o ps := by
  show denFn [true] 6 b_product_lines [x0] = _
  unfold denFn
  rw [show initE [true] [x0] 6 = [.p x0, .no, .no, .no, .no, .no] from rfl, h, ← hp]; rfl
theorem ok_product_lines : FnOk P w K mg base (L2.CX P w) 1 Fx.a_product_lines Fx.fd_product_lines ["sheet"] (spD ⟨K, Fx.cl.f, none⟩ 1 d_product_lines) := by
  refine fn_ok (cl := Fx.cl) (k := 0) rfl Fx.F_product_lines sc_product_lines rfl (by decide) fun cdv A outer s H E hr => ?_
  exact (show HSs _ _ _ _ b_product_lines from (hss_cons (hs_asg (ss := [1, 2, 3]) (he_var (pv 0)) (hg_tup rfl (hgs_cons (hg_name (pg_name (i := 1) sc_product_lines.nd rfl (by first | exact .inl rfl | exact .inr rfl))) (hgs_cons (hg_name (pg_name (i := 2) sc_product_lines.nd rfl (by first | exact .inl rfl | exact .inr rfl))) (hgs_cons (hg_name (pg_name (i := 3) sc_product_lines.nd rfl (by first | exact .inl rfl | exact .inr rfl))) hgs_nil))) (hlen := (tg_len (tg_len (tg_len tg_len0))))))
      (hss_one (hs_ret (he_lc (own := [("at", 4), ("line", 5)]) (di := (iAr (aCons (dVar 2) aNil) gEnum)) (t := (tTupl (tgCons (tName 4) (tgCons (tName 5) tgNil)))) (dc := c1_product_lines) (de := e1_product_lines) (pe_lc rfl sc_product_lines.nd (hi_enum (by rfl) Fx.z_enumerate (ha_cons (he_var (pv 2)) ha_nil)) (blkOk_by (own := [("at", 4), ("line", 5)]) (N := sN_product_lines) (sc := defScope s_product_lines) (by decide +kernel)) (fun _ _ _ _ _ => (hg_tup rfl (hgs_cons (hg_name (pg_name (i := 4) sc_product_lines.nd rfl (by first | exact .inl rfl | exact .inr rfl))) (hgs_cons (hg_name (pg_name (i := 5) sc_product_lines.nd rfl (by first | exact .inl rfl | exact .inr rfl))) hgs_nil)) (hlen := (tg_len (tg_len tg_len0))))) (fun _ _ _ _ _ => (hts_one (ht_cmp (f := fEq) (OpR.or op_eq (op_eqD hr.units)) bEq (hv_of (he_sbs (hu_of hr) (hv_name (pv 5)) (hv_of he_int) (fun _ _ => rfl))) (hv_of he_str) (nomark _)))) (fun _ _ _ _ _ => (he_tup (ha_cons (he_add (hv_name (pv 1)) (hv_name (pv 4))) (ha_cons (he_var (pv 5)) ha_nil))))))))))
theorem kb_base_wires_1_ : KB K Fx.fd_base_wires ["sheet"] [] 1 0 [0] := KB.of Fx.F_base_wires (fun _ _ _ _ _ _ us ws h0 h1 => match us, ws, h0, h1 with | [_], [], _, _ => rfl) (by decide)
theorem kb_base_wires_0_sheet : KB K Fx.fd_base_wires ["sheet"] ["sheet"] 0 1 [0] := KB.of Fx.F_base_wires (fun _ _ _ _ _ _ us ws h0 h1 => match us, ws, h0, h1 with | [], [_], _, _ => rfl) (by decide)
def b_base_wires : En → Out :=
  (sRet (dBin fAdd (vT (dTRg (rg1 (vT (dBin fIx (vS 0) (vT (dC (.int 0)))))))) (vT (dCall (on1 fTuple) (vCons (vT (dLc (iAny (dCallF d_product_lines [0] (cCons (gName 0) cNil))) [1, 2] (tTupl (tgCons (tName 1) (tgCons (tName 2) tgNil))) dYes (dVar 1))) vNil)))))
def d_base_wires : Den := denFn [true] 3 b_base_wires
theorem R_base_wires {x0 : O} {o : O} {e : En} {ps : List (Option O)} (h : b_base_wires [.p x0, .no, .no] = .rt o e) (hp : outE 1 e = ps := by rfl) : d_base_wires [x0] = .ok o ps := by
  show denFn [true] 3 b_base_wires [x0] = _
  unfold denFn
  rw [show initE [true] [x0] 3 = [.p x0, .no, .no] from rfl, h, ← hp]; rfl
theorem ok_base_wires : FnOk P w K mg base (L2.CX P w) 2 Fx.a_base_wires Fx.fd_base_wires ["sheet"] (spD ⟨K, Fx.cl.f, none⟩ 1 d_base_wires) := by
  refine fn_ok (cl := Fx.cl) (k := 1) rfl Fx.F_base_wires sc_base_wires rfl (by decide) fun cdv A outer s H E hr => ?_
  exact (show HSs _ _ _ _ b_base_wires from (hss_one (hs_ret (he_add (hv_of (he_tupRg rfl (by rfl) Fx.z_tuple (hrg_1 (by rfl) Fx.z_range (hv_of (he_sbs (hu_of hr) (hv_name (pv 0)) (hv_of he_int) (fun _ _ => rfl)))))) (hv_of (he_callTy (f := (on1 fTuple)) call_tupleN cTuple (by rfl) Fx.z_tuple rfl (hvs_cons (hv_of (he_lc (own := [("wire", 1), ("_", 2)]) (di := (iAny (dCallF d_product_lines [0] (cCons (gName 0) cNil)))) (t := (tTupl (tgCons (tName 1) (tgCons (tName 2) tgNil)))) (dc := dYes) (de := (dVar 1)) (pe_lc rfl sc_base_wires.nd (hi_any (he_fn (ok_product_lines Fx) (hr.mono (by first | decide | omega)) (takes_of rfl rfl rfl rfl) (by rfl) Fx.g_product_lines Fx.F_product_lines.kp (kb_product_lines_1_ Fx) (hc_cons (ga_name (pv 0)) hc_nil))) (blkOk_by (own := [("wire", 1), ("_", 2)]) (N := sN_base_wires) (sc := defScope s_base_wires) (by decide +kernel)) (fun _ _ _ _ _ => (hg_tup rfl (hgs_cons (hg_name (pg_name (i := 1) sc_base_wires.nd rfl (by first | exact .inl rfl | exact .inr rfl))) (hgs_cons (hg_name (pg_name (i := 2) sc_base_wires.nd rfl (by first | exact .inl rfl | exact .inr rfl))) hgs_nil)) (hlen := (tg_len (tg_len tg_len0))))) (fun _ _ _ _ _ => hts_nil) (fun _ _ _ _ _ => (he_var (pv 1)))))) hvs_nil)))))))
theorem kb_line_value_3_ : KB K Fx.fd_line_value ["q", "line", "wires"] [] 3 0 [0, 1, 2] := KB.of Fx.F_line_value (fun _ _ _ _ _ _ us ws h0 h1 => match us, ws, h0, h1 with | [_, _, _], [], _, _ => rfl) (by decide)
def b_line_value : En → Out :=
  (sSeq (sIf (dTst (dBin fEq (vT (dBin fIx (vS 1) (vT (dC (.int 0))))) (vT (dC (.str (Str.ofString "scale")))))) (sRet (dBin fMod (vT (dBin fAdd (vT (dBin fMul (vT (dBin fIx (vS 1) (vT (dC (.int 1))))) (vT (dBin fIx (vS 2) (vT (dBin fIx (vS 1) (vT (dC (.int 2))))))))) (vT (dBin fIx (vS 1) (vT (dC (.int 3))))))) (vS 0))) sNext)
  (sSeq (sIf (dTst (dBin fEq (vT (dBin fIx (vS 1) (vT (dC (.int 0))))) (vT (dC (.str (Str.ofString "add")))))) (sRet (dBin fMod (vT (dBin fAdd (vT (dBin fIx (vS 2) (vT (dBin fIx (vS 1) (vT (dC (.int 1))))))) (vT (dBin fIx (vS 2) (vT (dBin fIx (vS 1) (vT (dC (.int 2))))))))) (vS 0))) sNext)
  (sRet (dBin fMod (vT (dBin fMul (vT (dBin fIx (vS 2) (vT (dBin fIx (vS 1) (vT (dC (.int 1))))))) (vT (dBin fIx (vS 2) (vT (dBin fIx (vS 1) (vT (dC (.int 2))))))))) (vS 0)))))
def d_line_value : Den := denFn [true, true, true] 3 b_line_value
theorem R_line_value {x0 x1 x2 : O} {o : O} {e : En} {ps : List (Option O)} (h : b_line_value [.p x0, .p x1, .p x2] = .rt o e) (hp : outE 3 e = ps := by rfl) : d_line_value [x0, x1, x2] = .ok o ps := by
  show denFn [true, true, true] 3 b_line_value [x0, x1, x2] = _
  unfold denFn
  rw [show initE [true, true, true] [x0, x1, x2] 3 = [.p x0, .p x1, .p x2] from rfl, h, ← hp]; rfl
theorem ok_line_value : FnOk P w K mg base (L2.CX P w) 1 Fx.a_line_value Fx.fd_line_value ["q", "line", "wires"] (spD ⟨K, Fx.cl.f, none⟩ 3 d_line_value) := by
  refine fn_ok (cl := Fx.cl) (k := 0) rfl Fx.F_line_value sc_line_value rfl (by decide) fun cdv A outer s H E hr => ?_
  exact (show HSs _ _ _ _ b_line_value from (hss_cons (hs_if (ht_cmp (f := fEq) (OpR.or op_eq (op_eqD hr.units)) bEq (hv_of (he_sbs (hu_of hr) (hv_name (pv 1)) (hv_of he_int) (fun _ _ => rfl))) (hv_of he_str) (nomark _)) (hss_one (hs_ret (he_mod (hv_of (he_add (hv_of (he_mul (hv_of (he_sbs (hu_of hr) (hv_name (pv 1)) (hv_of he_int) (fun _ _ => rfl))) (hv_of (he_sbs (hu_of hr) (hv_name (pv 2)) (hv_of (he_sbs (hu_of hr) (hv_name (pv 1)) (hv_of he_int) (fun _ _ => rfl))) (fun _ _ => rfl))))) (hv_of (he_sbs (hu_of hr) (hv_name (pv 1)) (hv_of he_int) (fun _ _ => rfl))))) (hv_name (pv 0))))) hss_nil)
      (hss_cons (hs_if (ht_cmp (f := fEq) (OpR.or op_eq (op_eqD hr.units)) bEq (hv_of (he_sbs (hu_of hr) (hv_name (pv 1)) (hv_of he_int) (fun _ _ => rfl))) (hv_of he_str) (nomark _)) (hss_one (hs_ret (he_mod (hv_of (he_add (hv_of (he_sbs (hu_of hr) (hv_name (pv 2)) (hv_of (he_sbs (hu_of hr) (hv_name (pv 1)) (hv_of he_int) (fun _ _ => rfl))) (fun _ _ => rfl))) (hv_of (he_sbs (hu_of hr) (hv_name (pv 2)) (hv_of (he_sbs (hu_of hr) (hv_name (pv 1)) (hv_of he_int) (fun _ _ => rfl))) (fun _ _ => rfl))))) (hv_name (pv 0))))) hss_nil)
      (hss_one (hs_ret (he_mod (hv_of (he_mul (hv_of (he_sbs (hu_of hr) (hv_name (pv 2)) (hv_of (he_sbs (hu_of hr) (hv_name (pv 1)) (hv_of he_int) (fun _ _ => rfl))) (fun _ _ => rfl))) (hv_of (he_sbs (hu_of hr) (hv_name (pv 2)) (hv_of (he_sbs (hu_of hr) (hv_name (pv 1)) (hv_of he_int) (fun _ _ => rfl))) (fun _ _ => rfl))))) (hv_name (pv 0))))))))
theorem kb_wire_values_3_ : KB K Fx.fd_wire_values ["q", "sheet", "inputs"] [] 3 0 [0, 1, 2] := KB.of Fx.F_wire_values (fun _ _ _ _ _ _ us ws h0 h1 => match us, ws, h0, h1 with | [_, _, _], [], _, _ => rfl) (by decide)
theorem kb_wire_values_0_inputs_sheet_q : KB K Fx.fd_wire_values ["q", "sheet", "inputs"] ["inputs", "sheet", "q"] 0 3 [2, 1, 0] := KB.of Fx.F_wire_values (fun _ _ _ _ _ _ us ws h0 h1 => match us, ws, h0, h1 with | [], [_, _, _], _, _ => rfl) (by decide)
abbrev e1_wire_values : En → Rs O :=
  (dBin fMod (vS 5) (vS 0))
abbrev l1_wire_values : En → Out :=
  (sExpr (dMut 3 fAppend (aCons (dCallF d_line_value [0, 1, 2] (cCons (gName 0) (cCons (gName 4) (cCons (gName 3) cNil)))) aNil)))
def b_wire_values : En → Out :=
  (sSeq (sAsg (dLc (iAny (dVar 2)) [5] (tName 5) dYes e1_wire_values) (tName 3))
  (sSeq (sFor (iAny (dBin fIx (vS 1) (vT (dC (.int 1))))) (tName 4) l1_wire_values)
  (sRet (dCall (on1 fTuple) (vCons (vS 3) vNil)))))
def d_wire_values : Den := denFn [true, true, true] 6 b_wire_values
theorem R_wire_values {x0 x1 x2 : O} {o : O} {e : En} {ps : List (Option O)} (h : b_wire_values [.p x0, .p x1, .p x2, .no, .no, .no] = .rt o e) (hp : outE 3 e = ps := by rfl) : d_wire_values [x0, x1, x2] = .ok o ps := by
  show denFn [true, true, true] 6 b_wire_values [x0, x1, x2] = _
  unfold denFn
  rw [show initE [true, true, true] [x0, x1, x2] 6 = [.p x0, .p x1, .p x2, .no, .no, .no] from rfl, h, ← hp]; rfl
theorem ok_wire_values : FnOk P w K mg base (L2.CX P w) 2 Fx.a_wire_values Fx.fd_wire_values ["q", "sheet", "inputs"] (spD ⟨K, Fx.cl.f, none⟩ 3 d_wire_values) := by
  refine fn_ok (cl := Fx.cl) (k := 1) rfl Fx.F_wire_values sc_wire_values rfl (by decide) fun cdv A outer s H E hr => ?_
  exact (show HSs _ _ _ _ b_wire_values from (hss_cons (hs_setLc (own := [("value", 5)]) (di := (iAny (dVar 2))) (t := (tName 5)) (dc := dYes) (de := e1_wire_values) (ps_setLc (i := 3) rfl sc_wire_values.nd rfl rfl (sw_true rfl rfl rfl (by decide +kernel)) (hi_any (he_var (pv 2))) (blkOk_by (own := [("value", 5)]) (N := sN_wire_values) (sc := defScope s_wire_values) (by decide +kernel)) (fun _ _ _ _ _ => (hg_name (pg_name (i := 5) sc_wire_values.nd rfl (by first | exact .inl rfl | exact .inr rfl)))) (fun _ _ _ _ _ => hts_nil) (fun _ _ _ _ _ => (he_mod (hv_name (pv 5)) (hv_name (pv 0))))))
      (hss_cons (hs_for (ss := [4]) (passes_of rfl) rfl (hi_any (he_sbs (hu_of hr) (hv_name (pv 1)) (hv_of he_int) (fun _ _ => rfl))) (hg_name (pg_name (i := 4) sc_wire_values.nd rfl (by first | exact .inl rfl | exact .inr rfl))) (hss_one (hs_expr (he_mut (id := "list.append") mAppend (pe_bm PySem.F.plainAttrs_list PySem.F.slot_list_append PySem.F.type_list_append mt_append (pv 3) (ha_cons (he_fn (ok_line_value Fx) (hr.mono (by first | decide | omega)) (takes_of rfl rfl rfl rfl) (by rfl) Fx.g_line_value Fx.F_line_value.kp (kb_line_value_3_ Fx) (hc_cons (ga_name (pv 0)) (hc_cons (ga_name (pv 4)) (hc_cons (ga_name (pv 3)) hc_nil)))) ha_nil))))))
      (hss_one (hs_ret (he_callTy (f := (on1 fTuple)) call_tupleN cTuple (by rfl) Fx.z_tuple rfl (hvs_cons (hv_name (pv 3)) hvs_nil)))))))
theorem kb_results_of_3_ : KB K Fx.fd_results_of ["q", "sheet", "inputs"] [] 3 0 [0, 1, 2] := KB.of Fx.F_results_of (fun _ _ _ _ _ _ us ws h0 h1 => match us, ws, h0, h1 with | [_, _, _], [], _, _ => rfl) (by decide)
theorem kb_results_of_0_inputs_sheet_q : KB K Fx.fd_results_of ["q", "sheet", "inputs"] ["inputs", "sheet", "q"] 0 3 [2, 1, 0] := KB.of Fx.F_results_of (fun _ _ _ _ _ _ us ws h0 h1 => match us, ws, h0, h1 with | [], [_, _, _], _, _ => rfl) (by decide)
abbrev e1_results_of : En → Rs O :=
  (dBin fIx (vS 3) (vS 4))
def b_results_of : En → Out :=
  (sSeq (sAsg (dCallF d_wire_values [0, 1, 2] (cCons (gName 0) (cCons (gName 1) (cCons (gName 2) cNil)))) (tName 3))
  (sRet (dCall (on1 fTuple) (vCons (vT (dLc (iAny (dBin fIx (vS 1) (vT (dC (.int 2))))) [4] (tName 4) dYes e1_results_of)) vNil))))
def d_results_of : Den := denFn [true, true, true] 5 b_results_of
theorem R_results_of {x0 x1 x2 : O} {o : O} {e : En} {ps : List (Option O)} (h : b_results_of [.p x0, .p x1, .p x2, .no, .no] = .rt o e) (hp : outE 3 e = ps := by rfl) : d_results_of [x0, x1, x2] = .ok o ps := by
  show denFn [true, true, true] 5 b_results_of [x0, x1, x2] = _
  unfold denFn
  rw [show initE [true, true, true] [x0, x1, x2] 5 = [.p x0, .p x1, .p x2, .no, .no] from rfl, h, ← hp]; rfl
theorem ok_results_of : FnOk P w K mg base (L2.CX P w) 3 Fx.a_results_of Fx.fd_results_of ["q", "sheet", "inputs"] (spD ⟨K, Fx.cl.f, none⟩ 3 d_results_of) := by
  refine fn_ok (cl := Fx.cl) (k := 2) rfl Fx.F_results_of sc_results_of rfl (by decide) fun cdv A outer s H E hr => ?_
  exact (show HSs _ _ _ _ b_results_of from (hss_cons (hs_asg (ss := [3]) (he_fn (ok_wire_values Fx) (hr.mono (by first | decide | omega)) (takes_of rfl rfl rfl rfl) (by rfl) Fx.g_wire_values Fx.F_wire_values.kp (kb_wire_values_3_ Fx) (hc_cons (ga_name (pv 0)) (hc_cons (ga_name (pv 1)) (hc_cons (ga_name (pv 2)) hc_nil)))) (hg_name (pg_name (i := 3) sc_results_of.nd rfl (by first | exact .inl rfl | exact .inr rfl))))
      (hss_one (hs_ret (he_callTy (f := (on1 fTuple)) call_tupleN cTuple (by rfl) Fx.z_tuple rfl (hvs_cons (hv_of (he_lc (own := [("wire", 4)]) (di := (iAny (dBin fIx (vS 1) (vT (dC (.int 2)))))) (t := (tName 4)) (dc := dYes) (de := e1_results_of) (pe_lc rfl sc_results_of.nd (hi_any (he_sbs (hu_of hr) (hv_name (pv 1)) (hv_of he_int) (fun _ _ => rfl))) (blkOk_by (own := [("wire", 4)]) (N := sN_results_of) (sc := defScope s_results_of) (by decide +kernel)) (fun _ _ _ _ _ => (hg_name (pg_name (i := 4) sc_results_of.nd rfl (by first | exact .inl rfl | exact .inr rfl)))) (fun _ _ _ _ _ => hts_nil) (fun _ _ _ _ _ => (he_sbs (hu_of hr) (hv_name (pv 3)) (hv_name (pv 4)) (fun _ _ => rfl)))))) hvs_nil))))))
theorem kb_unit_row_2_ : KB K Fx.fd_unit_row ["width", "place"] [] 2 0 [0, 1] := KB.of Fx.F_unit_row (fun _ _ _ _ _ _ us ws h0 h1 => match us, ws, h0, h1 with | [_, _], [], _, _ => rfl) (by decide)
def b_unit_row : En → Out :=
  (sRet (dBin fAdd (vT (dBin fAdd (vT (dBin fMul (vT (dTup (aCons (dC (.int 0)) aNil))) (vS 1))) (vT (dTup (aCons (dC (.int 1)) aNil))))) (vT (dBin fMul (vT (dTup (aCons (dC (.int 0)) aNil))) (vT (dBin fSub (vT (dBin fSub (vS 0) (vS 1))) (vT (dC (.int 1)))))))))
def d_unit_row : Den := denFn [true, true] 2 b_unit_row
theorem R_unit_row {x0 x1 : O} {o : O} {e : En} {ps : List (Option O)} (h : b_unit_row [.p x0, .p x1] = .rt o e) (hp : outE 2 e = ps := by rfl) : d_unit_row [x0, x1] = .ok o ps := by
  show denFn [true, true] 2 b_unit_row [x0, x1] = _
  unfold denFn
  rw [show initE [true, true] [x0, x1] 2 = [.p x0, .p x1] from rfl, h, ← hp]; rfl
theorem ok_unit_row : FnOk P w K mg base (L2.CX P w) 1 Fx.a_unit_row Fx.fd_unit_row ["width", "place"] (spD ⟨K, Fx.cl.f, none⟩ 2 d_unit_row) := by
  refine fn_ok (cl := Fx.cl) (k := 0) rfl Fx.F_unit_row sc_unit_row rfl (by decide) fun cdv A outer s H E hr => ?_
  exact (show HSs _ _ _ _ b_unit_row from (hss_one (hs_ret (he_add (hv_of (he_add (hv_of (he_mul (hv_of (he_tup (ha_cons he_int ha_nil))) (hv_name (pv 1)))) (hv_of (he_tup (ha_cons he_int ha_nil))))) (hv_of (he_mul (hv_of (he_tup (ha_cons he_int ha_nil))) (hv_of (he_sub (hv_of (he_sub (hv_name (pv 0)) (hv_name (pv 1)))) (hv_of he_int)))))))))
theorem kb_line_form_4_ : KB K Fx.fd_line_form ["q", "line", "forms", "own"] [] 4 0 [0, 1, 2, 3] := KB.of Fx.F_line_form (fun _ _ _ _ _ _ us ws h0 h1 => match us, ws, h0, h1 with | [_, _, _, _], [], _, _ => rfl) (by decide)
abbrev e1_line_form : En → Rs O :=
  (dBin fMod (vT (dBin fAdd (vS 5) (vS 6))) (vS 0))
abbrev e2_line_form : En → Rs O :=
  (dBin fMod (vT (dBin fMul (vT (dBin fIx (vS 1) (vT (dC (.int 1))))) (vS 5))) (vS 0))
def b_line_form : En → Out :=
  (sSeq (sIf (dTst (dBin fEq (vT (dBin fIx (vS 1) (vT (dC (.int 0))))) (vT (dC (.str (Str.ofString "times")))))) (sRet (dVar 3)) sNext)
  (sSeq (sIf (dTst (dBin fEq (vT (dBin fIx (vS 1) (vT (dC (.int 0))))) (vT (dC (.str (Str.ofString "add")))))) (sRet (dCall (on1 fTuple) (vCons (vT (dLc (iAr (aCons (dBin fIx (vS 2) (vT (dBin fIx (vS 1) (vT (dC (.int 1)))))) (aCons (dBin fIx (vS 2) (vT (dBin fIx (vS 1) (vT (dC (.int 2)))))) aNil)) gZip) [5, 6] (tTupl (tgCons (tName 5) (tgCons (tName 6) tgNil))) dYes e1_line_form)) vNil))) sNext)
  (sSeq (sAsg (dLc (iAny (dBin fIx (vS 2) (vT (dBin fIx (vS 1) (vT (dC (.int 2))))))) [5] (tName 5) dYes e2_line_form) (tName 4))
  (sSeq (sAsg (dBin fMod (vT (dBin fAdd (vT (dBin fIx (vS 4) (vT (dUn fNeg (vT (dC (.int 1))))))) (vT (dBin fIx (vS 1) (vT (dC (.int 3))))))) (vS 0)) (tSub 4 (vT (dUn fNeg (vT (dC (.int 1)))))))
  (sRet (dCall (on1 fTuple) (vCons (vS 4) vNil)))))))
def d_line_form : Den := denFn [true, true, true, true] 7 b_line_form
theorem R_line_form {x0 x1 x2 x3 : O} {o : O} {e : En} {ps : List (Option O)} (h : b_line_form [.p x0, .p x1, .p x2, .p x3, .no, .no, .no] = .rt o e) (hp : outE 4 e = ps := by rfl) : d_line_form [x0, x1, x2, x3] = .ok o ps := by
  show denFn [true, true, true, true] 7 b_line_form [x0, x1, x2, x3] = _
  unfold denFn
  rw [show initE [true, true, true, true] [x0, x1, x2, x3] 7 = [.p x0, .p x1, .p x2, .p x3, .no, .no, .no] from rfl, h, ← hp]; rfl
theorem ok_line_form : FnOk P w K mg base (L2.CX P w) 1 Fx.a_line_form Fx.fd_line_form ["q", "line", "forms", "own"] (spD ⟨K, Fx.cl.f, none⟩ 4 d_line_form) := by
  refine fn_ok (cl := Fx.cl) (k := 0) rfl Fx.F_line_form sc_line_form rfl (by decide) fun cdv A outer s H E hr => ?_
  exact (show HSs _ _ _ _ b_line_form from (hss_cons (hs_if (ht_cmp (f := fEq) (OpR.or op_eq (op_eqD hr.units)) bEq (hv_of (he_sbs (hu_of hr) (hv_name (pv 1)) (hv_of he_int) (fun _ _ => rfl))) (hv_of he_str) (nomark _)) (hss_one (hs_ret (he_var (pv 3)))) hss_nil)
      (hss_cons (hs_if (ht_cmp (f := fEq) (OpR.or op_eq (op_eqD hr.units)) bEq (hv_of (he_sbs (hu_of hr) (hv_name (pv 1)) (hv_of he_int) (fun _ _ => rfl))) (hv_of he_str) (nomark _)) (hss_one (hs_ret (he_callTy (f := (on1 fTuple)) call_tupleN cTuple (by rfl) Fx.z_tuple rfl (hvs_cons (hv_of (he_lc (own := [("a", 5), ("b", 6)]) (di := (iAr (aCons (dBin fIx (vS 2) (vT (dBin fIx (vS 1) (vT (dC (.int 1)))))) (aCons (dBin fIx (vS 2) (vT (dBin fIx (vS 1) (vT (dC (.int 2)))))) aNil)) gZip)) (t := (tTupl (tgCons (tName 5) (tgCons (tName 6) tgNil)))) (dc := dYes) (de := e1_line_form) (pe_lc rfl sc_line_form.nd (hi_zip (by rfl) Fx.z_zip (ha_cons (he_sbs (hu_of hr) (hv_name (pv 2)) (hv_of (he_sbs (hu_of hr) (hv_name (pv 1)) (hv_of he_int) (fun _ _ => rfl))) (fun _ _ => rfl)) (ha_cons (he_sbs (hu_of hr) (hv_name (pv 2)) (hv_of (he_sbs (hu_of hr) (hv_name (pv 1)) (hv_of he_int) (fun _ _ => rfl))) (fun _ _ => rfl)) ha_nil))) (blkOk_by (own := [("a", 5), ("b", 6)]) (N := sN_line_form) (sc := defScope s_line_form) (by decide +kernel)) (fun _ _ _ _ _ => (hg_tup rfl (hgs_cons (hg_name (pg_name (i := 5) sc_line_form.nd rfl (by first | exact .inl rfl | exact .inr rfl))) (hgs_cons (hg_name (pg_name (i := 6) sc_line_form.nd rfl (by first | exact .inl rfl | exact .inr rfl))) hgs_nil)) (hlen := (tg_len (tg_len tg_len0))))) (fun _ _ _ _ _ => hts_nil) (fun _ _ _ _ _ => (he_mod (hv_of (he_add (hv_name (pv 5)) (hv_name (pv 6)))) (hv_name (pv 0))))))) hvs_nil)))) hss_nil)
      (hss_cons (hs_setLc (own := [("a", 5)]) (di := (iAny (dBin fIx (vS 2) (vT (dBin fIx (vS 1) (vT (dC (.int 2)))))))) (t := (tName 5)) (dc := dYes) (de := e2_line_form) (ps_setLc (i := 4) rfl sc_line_form.nd rfl rfl (sw_true rfl rfl rfl (by decide +kernel)) (hi_any (he_sbs (hu_of hr) (hv_name (pv 2)) (hv_of (he_sbs (hu_of hr) (hv_name (pv 1)) (hv_of he_int) (fun _ _ => rfl))) (fun _ _ => rfl))) (blkOk_by (own := [("a", 5)]) (N := sN_line_form) (sc := defScope s_line_form) (by decide +kernel)) (fun _ _ _ _ _ => (hg_name (pg_name (i := 5) sc_line_form.nd rfl (by first | exact .inl rfl | exact .inr rfl)))) (fun _ _ _ _ _ => hts_nil) (fun _ _ _ _ _ => (he_mod (hv_of (he_mul (hv_of (he_sbs (hu_of hr) (hv_name (pv 1)) (hv_of he_int) (fun _ _ => rfl))) (hv_name (pv 5)))) (hv_name (pv 0))))))
      (hss_cons (hs_asg (ss := []) (he_mod (hv_of (he_add (hv_of (he_sbs (hu_of hr) (hv_name (pv 4)) (hv_of (he_un un_neg uNeg (hv_of he_int))) (fun _ _ => rfl))) (hv_of (he_sbs (hu_of hr) (hv_name (pv 1)) (hv_of he_int) (fun _ _ => rfl))))) (hv_name (pv 0))) (hg_sub (Wo := Wf) (hu_of hr) (pv 4) (hv_of (he_un un_neg uNeg (hv_of he_int)))))
      (hss_one (hs_ret (he_callTy (f := (on1 fTuple)) call_tupleN cTuple (by rfl) Fx.z_tuple rfl (hvs_cons (hv_name (pv 4)) hvs_nil)))))))))
theorem kb_wire_forms_2_ : KB K Fx.fd_wire_forms ["q", "sheet"] [] 2 0 [0, 1] := KB.of Fx.F_wire_forms (fun _ _ _ _ _ _ us ws h0 h1 => match us, ws, h0, h1 with | [_, _], [], _, _ => rfl) (by decide)
theorem kb_wire_forms_0_sheet_q : KB K Fx.fd_wire_forms ["q", "sheet"] ["sheet", "q"] 0 2 [1, 0] := KB.of Fx.F_wire_forms (fun _ _ _ _ _ _ us ws h0 h1 => match us, ws, h0, h1 with | [], [_, _], _, _ => rfl) (by decide)
abbrev e1_wire_forms : En → Rs O :=
  (dCallF d_unit_row [0, 1] (cCons (gName 3) (cCons (gName 7) cNil)))
abbrev l1_wire_forms : En → Out :=
  (sSeq (sAsg (dBin fAdd (vT (dBin fIx (vS 1) (vT (dC (.int 0))))) (vS 5)) (tName 7))
  (sSeq (sAsg (dIf (dTst (dBin fInU (vS 7) (vS 2))) (dCallF d_unit_row [0, 1] (cCons (gName 3) (cCons (gVal (dOr (dMeth "tuple" fTupIdx (vS 2) (vCons (vS 7) vNil)) (dMeth "list" fLstIdx (vS 2) (vCons (vS 7) vNil)))) cNil))) (dTup aNil)) (tName 8))
  (sExpr (dMut 4 fAppend (aCons (dCallF d_line_form [0, 1, 2, 3] (cCons (gName 0) (cCons (gName 6) (cCons (gName 4) (cCons (gName 8) cNil))))) aNil)))))
def b_wire_forms : En → Out :=
  (sSeq (sAsg (dCallF d_base_wires [0] (cCons (gName 1) cNil)) (tName 2))
  (sSeq (sAsg (dBin fAdd (vT (dCall fLenU (vCons (vS 2) vNil))) (vT (dC (.int 1)))) (tName 3))
  (sSeq (sAsg (dSave 7 (dLc (iOps (vCons (vT (dBin fIx (vS 1) (vT (dC (.int 0))))) vNil) gR1) [7] (tName 7) dYes e1_wire_forms)) (tName 4))
  (sSeq (sFor (iAr (aCons (dBin fIx (vS 1) (vT (dC (.int 1)))) aNil) gEnum) (tTupl (tgCons (tName 5) (tgCons (tName 6) tgNil))) l1_wire_forms)
  (sRet (dCall (on1 fTuple) (vCons (vS 4) vNil)))))))
def d_wire_forms : Den := denFn [true, true] 9 b_wire_forms
theorem R_wire_forms {x0 x1 : O} {o : O} {e : En} {ps : List (Option O)} (h : b_wire_forms [.p x0, .p x1, .no, .no, .no, .no, .no, .no, .no] = .rt o e) (hp : outE 2 e = ps := by rfl) : d_wire_forms [x0, x1] = .ok o ps := by
  show denFn [true, true] 9 b_wire_forms [x0, x1] = _
  unfold denFn
  rw [show initE [true, true] [x0, x1] 9 = [.p x0, .p x1, .no, .no, .no, .no, .no, .no, .no] from rfl, h, ← hp]; rfl
theorem ok_wire_forms : FnOk P w K mg base (L2.CX P w) 3 Fx.a_wire_forms Fx.fd_wire_forms ["q", "sheet"] (spD ⟨K, Fx.cl.f, none⟩ 2 d_wire_forms) := by
  refine fn_ok (cl := Fx.cl) (k := 2) rfl Fx.F_wire_forms sc_wire_forms rfl (by decide) fun cdv A outer s H E hr => ?_
  exact (show HSs _ _ _ _ b_wire_forms from (hss_cons (hs_asg (ss := [2]) (he_fn (ok_base_wires Fx) (hr.mono (by first | decide | omega)) (takes_of rfl rfl rfl rfl) (by rfl) Fx.g_base_wires Fx.F_base_wires.kp (kb_base_wires_1_ Fx) (hc_cons (ga_name (pv 1)) hc_nil)) (hg_name (pg_name (i := 2) sc_wire_forms.nd rfl (by first | exact .inl rfl | exact .inr rfl))))
      (hss_cons (hs_asg (ss := [3]) (he_add (hv_of (he_callB (f := fLenU) (CallR.or call_len_seq (CallR.or call_len_str call_lenD)) cLenU (by rfl) Fx.z_len rfl (hvs_cons (hv_name (pv 2)) hvs_nil))) (hv_of he_int)) (hg_name (pg_name (i := 3) sc_wire_forms.nd rfl (by first | exact .inl rfl | exact .inr rfl))))
      (hss_cons (hs_setLcS (own := [("wire", 7)]) (di := (iOps (vCons (vT (dBin fIx (vS 1) (vT (dC (.int 0))))) vNil) gR1)) (t := (tName 7)) (dc := dYes) (de := e1_wire_forms) (d0 := (dSave 7 (dLc (iOps (vCons (vT (dBin fIx (vS 1) (vT (dC (.int 0))))) vNil) gR1) [7] (tName 7) dYes e1_wire_forms))) (fun h => (rd_save h)) (ps_setLc (i := 4) rfl sc_wire_forms.nd rfl rfl (sw_true rfl rfl rfl (by decide +kernel)) (hi_range1 (by rfl) Fx.z_range (hvs_cons (hv_of (he_sbs (hu_of hr) (hv_name (pv 1)) (hv_of he_int) (fun _ _ => rfl))) hvs_nil)) (blkOk_by (own := [("wire", 7)]) (N := sN_wire_forms) (sc := defScope s_wire_forms) (by decide +kernel)) (fun _ _ _ _ _ => (hg_name (pg_name (i := 7) sc_wire_forms.nd rfl (by first | exact .inl rfl | exact .inr rfl)))) (fun _ _ _ _ _ => hts_nil) (fun _ _ _ _ _ => (he_fn (ok_unit_row Fx) (hr.mono (by first | decide | omega)) takes0 (by rfl) Fx.g_unit_row Fx.F_unit_row.kp (kb_unit_row_2_ Fx) (hc_cons (ga_name (pv 3)) (hc_cons (ga_name (pv 7)) hc_nil))))))
      (hss_cons (hs_for (ss := [5, 6]) (passes_of rfl) rfl (hi_enum (by rfl) Fx.z_enumerate (ha_cons (he_sbs (hu_of hr) (hv_name (pv 1)) (hv_of he_int) (fun _ _ => rfl)) ha_nil)) (hg_tup rfl (hgs_cons (hg_name (pg_name (i := 5) sc_wire_forms.nd rfl (by first | exact .inl rfl | exact .inr rfl))) (hgs_cons (hg_name (pg_name (i := 6) sc_wire_forms.nd rfl (by first | exact .inl rfl | exact .inr rfl))) hgs_nil)) (hlen := (tg_len (tg_len tg_len0)))) (hss_cons (hs_asg (ss := [7]) (he_add (hv_of (he_sbs (hu_of hr) (hv_name (pv 1)) (hv_of he_int) (fun _ _ => rfl))) (hv_name (pv 5))) (hg_name (pg_name (i := 7) sc_wire_forms.nd rfl (by first | exact .inl rfl | exact .inr rfl))))
      (hss_cons (hs_asg (ss := [8]) (he_if (ht_cmp (f := fInU) (OpR.or op_in_seq (op_in_dk (hu_of hr))) (BinOk.or bIn bDin) (hv_name (pv 7)) (hv_name (pv 2)) (by rfl)) (he_fn (ok_unit_row Fx) (hr.mono (by first | decide | omega)) (takes_of rfl rfl rfl rfl) (by rfl) Fx.g_unit_row Fx.F_unit_row.kp (kb_unit_row_2_ Fx) (hc_cons (ga_name (pv 3)) (hc_cons (ga_val (he_alt (he_meth (T := "tuple") mTupIndex PySem.F.plainAttrs_tuple PySem.F.slot_tuple_index PySem.F.type_tuple_index mt_tupIdx (hv_name (pv 2)) (hvs_cons (hv_name (pv 7)) hvs_nil)) (he_meth (T := "list") mLstIndex PySem.F.plainAttrs_list PySem.F.slot_list_index PySem.F.type_list_index mt_lstIdx (hv_name (pv 2)) (hvs_cons (hv_name (pv 7)) hvs_nil)))) hc_nil))) (he_tup ha_nil)) (hg_name (pg_name (i := 8) sc_wire_forms.nd rfl (by first | exact .inl rfl | exact .inr rfl))))
      (hss_one (hs_expr (he_mut (id := "list.append") mAppend (pe_bm PySem.F.plainAttrs_list PySem.F.slot_list_append PySem.F.type_list_append mt_append (pv 4) (ha_cons (he_fn (ok_line_form Fx) (hr.mono (by first | decide | omega)) (takes_of rfl rfl rfl rfl) (by rfl) Fx.g_line_form Fx.F_line_form.kp (kb_line_form_4_ Fx) (hc_cons (ga_name (pv 0)) (hc_cons (ga_name (pv 6)) (hc_cons (ga_name (pv 4)) (hc_cons (ga_name (pv 8)) hc_nil))))) ha_nil))))))))
      (hss_one (hs_ret (he_callTy (f := (on1 fTuple)) call_tupleN cTuple (by rfl) Fx.z_tuple rfl (hvs_cons (hv_name (pv 4)) hvs_nil)))))))))
theorem kb__law_same_2_ : KB K Fx.fd__law_same ["told", "due"] [] 2 0 [0, 1] := KB.of Fx.F__law_same (fun _ _ _ _ _ _ us ws h0 h1 => match us, ws, h0, h1 with | [_, _], [], _, _ => rfl) (by decide)
abbrev l1__law_same (dR : Den) : En → Out :=
  (sIf (dNotT (dTst (dCallF dR [0, 1] (cCons (gVal (dBin fIx (vS 0) (vS 2))) (cCons (gVal (dBin fIx (vS 1) (vS 2))) cNil))))) (sRet (dC (.bl false))) sNext)
def b__law_same (dR : Den) : En → Out :=
  (sSeq (sIf (dTst (dBin fIsN (vS 1) (vT (dC .non)))) (sRet (dBin fIsN (vS 0) (vT (dC .non)))) sNext)
  (sSeq (sIf (dTst (dCall (on2 fIsi) (vCons (vS 1) (vCons (vT (dC (.ty "bool"))) vNil)))) (sRet (dAndV (dCall (on2 fIsi) (vCons (vS 0) (vCons (vT (dC (.ty "bool"))) vNil))) (dBin fEq (vS 0) (vS 1)))) sNext)
  (sSeq (sIf (dTst (dCall (on2 fIsi) (vCons (vS 1) (vCons (vT (dC (.ty "int"))) vNil)))) (sRet (dAndV (dCall (on2 fIsi) (vCons (vS 0) (vCons (vT (dC (.ty "int"))) vNil))) (dAndV (dNotV (dCall (on2 fIsi) (vCons (vS 0) (vCons (vT (dC (.ty "bool"))) vNil)))) (dBin fEq (vS 0) (vS 1))))) sNext)
  (sSeq (sIf (dTst (dCall (on2 fIsi) (vCons (vS 1) (vCons (vT (dC (.ty "str"))) vNil)))) (sRet (dAndV (dCall (on2 fIsi) (vCons (vS 0) (vCons (vT (dC (.ty "str"))) vNil))) (dBin fEq (vS 0) (vS 1)))) sNext)
  (sSeq (sIf (dOrT (dNotT (dTst (dCall (on2 fIsi) (vCons (vS 0) (vCons (vT (dC (.ty "tuple"))) vNil))))) (dTst (dBin fNe (vT (dCall fLenU (vCons (vS 0) vNil))) (vT (dCall fLenU (vCons (vS 1) vNil)))))) (sRet (dC (.bl false))) sNext)
  (sSeq (sFor (iOps (vCons (vT (dCall fLenU (vCons (vS 1) vNil))) vNil) gR1) (tName 2) (l1__law_same dR))
  (sRet (dC (.bl true)))))))))
def d__law_same : Nat → Den
  | 0 => fun _ => .bad
  | k + 1 => denFn [true, true] 3 (b__law_same (d__law_same k))
theorem R__law_same {k : Nat} {x0 x1 : O} {o : O} {e : En} {ps : List (Option O)} (h : (b__law_same (d__law_same k)) [.p x0, .p x1, .no] = .rt o e) (hp : outE 2 e = ps := by rfl) : d__law_same (k + 1) [x0, x1] = .ok o ps := by
  show denFn [true, true] 3 (b__law_same (d__law_same k)) [x0, x1] = _
  unfold denFn
  rw [show initE [true, true] [x0, x1] 3 = [.p x0, .p x1, .no] from rfl, h, ← hp]; rfl
theorem ok__law_same : ∀ k : Nat, FnOk P w K mg base (L2.CX P w) (0 + k) Fx.a__law_same Fx.fd__law_same ["told", "due"] (spD ⟨K, Fx.cl.f, none⟩ 2 (d__law_same k))
  | 0 => FnOk.bad Fx.F__law_same sc__law_same
  | k + 1 => by
    have hR := ok__law_same k
    refine fn_ok (cl := Fx.cl) (k := 0 + k) rfl Fx.F__law_same sc__law_same rfl (by decide) fun cdv A outer s H E hr => ?_
    exact (show HSs _ _ _ _ (b__law_same (d__law_same k)) from (hss_cons (hs_if (ht_cmp (f := fIsN) op_isN bIsN (hv_name (pv 1)) (hv_of he_non) (nomark _)) (hss_one (hs_ret (he_cmp (f := fIsN) op_isN bIsN (hv_name (pv 0)) (hv_of he_non) (nomark _)))) hss_nil)
      (hss_cons (hs_if (ht_val (he_callB (f := on2 fIsi) call_isi cIsi (by rfl) Fx.z_isinstance rfl (hvs_cons (hv_name (pv 1)) (hvs_cons (hv_of (he_ty (by rfl) Fx.z_bool rfl)) hvs_nil)))) (hss_one (hs_ret (he_and (he_callB (f := on2 fIsi) call_isi cIsi (by rfl) Fx.z_isinstance rfl (hvs_cons (hv_name (pv 0)) (hvs_cons (hv_of (he_ty (by rfl) Fx.z_bool rfl)) hvs_nil))) (he_one (he_cmp (f := fEq) (OpR.or op_eq (op_eqD hr.units)) bEq (hv_name (pv 0)) (hv_name (pv 1)) (nomark _)))))) hss_nil)
      (hss_cons (hs_if (ht_val (he_callB (f := on2 fIsi) call_isi cIsi (by rfl) Fx.z_isinstance rfl (hvs_cons (hv_name (pv 1)) (hvs_cons (hv_of (he_ty (by rfl) Fx.z_int rfl)) hvs_nil)))) (hss_one (hs_ret (he_and (he_callB (f := on2 fIsi) call_isi cIsi (by rfl) Fx.z_isinstance rfl (hvs_cons (hv_name (pv 0)) (hvs_cons (hv_of (he_ty (by rfl) Fx.z_int rfl)) hvs_nil))) (he_and (he_not (he_callB (f := on2 fIsi) call_isi cIsi (by rfl) Fx.z_isinstance rfl (hvs_cons (hv_name (pv 0)) (hvs_cons (hv_of (he_ty (by rfl) Fx.z_bool rfl)) hvs_nil)))) (he_one (he_cmp (f := fEq) (OpR.or op_eq (op_eqD hr.units)) bEq (hv_name (pv 0)) (hv_name (pv 1)) (nomark _))))))) hss_nil)
      (hss_cons (hs_if (ht_val (he_callB (f := on2 fIsi) call_isi cIsi (by rfl) Fx.z_isinstance rfl (hvs_cons (hv_name (pv 1)) (hvs_cons (hv_of (he_ty (by rfl) Fx.z_str rfl)) hvs_nil)))) (hss_one (hs_ret (he_and (he_callB (f := on2 fIsi) call_isi cIsi (by rfl) Fx.z_isinstance rfl (hvs_cons (hv_name (pv 0)) (hvs_cons (hv_of (he_ty (by rfl) Fx.z_str rfl)) hvs_nil))) (he_one (he_cmp (f := fEq) (OpR.or op_eq (op_eqD hr.units)) bEq (hv_name (pv 0)) (hv_name (pv 1)) (nomark _)))))) hss_nil)
      (hss_cons (hs_if (ht_w (hw_or (ht_not (ht_val (he_callB (f := on2 fIsi) call_isi cIsi (by rfl) Fx.z_isinstance rfl (hvs_cons (hv_name (pv 0)) (hvs_cons (hv_of (he_ty (by rfl) Fx.z_tuple rfl)) hvs_nil))))) (hw_or1 (ht_cmp (f := fNe) (OpR.or op_ne (op_neD hr.units)) bNe (hv_of (he_callB (f := fLenU) (CallR.or call_len_seq (CallR.or call_len_str call_lenD)) cLenU (by rfl) Fx.z_len rfl (hvs_cons (hv_name (pv 0)) hvs_nil))) (hv_of (he_callB (f := fLenU) (CallR.or call_len_seq (CallR.or call_len_str call_lenD)) cLenU (by rfl) Fx.z_len rfl (hvs_cons (hv_name (pv 1)) hvs_nil))) (nomark _))))) (hss_one (hs_ret he_bl)) hss_nil)
      (hss_cons (hs_for (ss := [2]) (passes_of rfl) rfl (hi_range1 (by rfl) Fx.z_range (hvs_cons (hv_of (he_callB (f := fLenU) (CallR.or call_len_seq (CallR.or call_len_str call_lenD)) cLenU (by rfl) Fx.z_len rfl (hvs_cons (hv_name (pv 1)) hvs_nil))) hvs_nil)) (hg_name (pg_name (i := 2) sc__law_same.nd rfl (by first | exact .inl rfl | exact .inr rfl))) (hss_one (hs_if (ht_not (ht_val (he_fn hR (hr.mono (by omega)) (takes_of rfl rfl rfl rfl) (by rfl) Fx.g__law_same Fx.F__law_same.kp (kb__law_same_2_ Fx) (hc_cons (ga_val (he_sbs (hu_of hr) (hv_name (pv 0)) (hv_name (pv 2)) (fun _ _ => rfl))) (hc_cons (ga_val (he_sbs (hu_of hr) (hv_name (pv 1)) (hv_name (pv 2)) (fun _ _ => rfl))) hc_nil))))) (hss_one (hs_ret he_bl)) hss_nil)))
      (hss_one (hs_ret he_bl)))))))))
theorem kb__law_walk_4_ : KB K Fx.fd__law_walk ["q", "sheet", "inputs", "products"] [] 4 0 [0, 1, 2, 3] := KB.of Fx.F__law_walk (fun _ _ _ _ _ _ us ws h0 h1 => match us, ws, h0, h1 with | [_, _, _, _], [], _, _ => rfl) (by decide)
abbrev e1__law_walk : En → Rs O :=
  (dBin fMod (vT (dCall (on1 fInt) (vCons (vS 7) vNil))) (vS 0))
abbrev l1__law_walk : En → Out :=
  (sIf (dTst (dBin fEq (vT (dBin fIx (vS 6) (vT (dC (.int 0))))) (vT (dC (.str (Str.ofString "add")))))) (sExpr (dMut 4 fAppend (aCons (dBin fMod (vT (dCall (on1 fInt) (vCons (vT (dBin fAdd (vT (dBin fIx (vS 4) (vT (dBin fIx (vS 6) (vT (dC (.int 1))))))) (vT (dBin fIx (vS 4) (vT (dBin fIx (vS 6) (vT (dC (.int 2))))))))) vNil))) (vS 0)) aNil))) (sIf (dTst (dBin fEq (vT (dBin fIx (vS 6) (vT (dC (.int 0))))) (vT (dC (.str (Str.ofString "scale")))))) (sExpr (dMut 4 fAppend (aCons (dBin fMod (vT (dCall (on1 fInt) (vCons (vT (dBin fAdd (vT (dBin fMul (vT (dBin fIx (vS 6) (vT (dC (.int 1))))) (vT (dBin fIx (vS 4) (vT (dBin fIx (vS 6) (vT (dC (.int 2))))))))) (vT (dBin fIx (vS 6) (vT (dC (.int 3))))))) vNil))) (vS 0)) aNil))) (sSeq (sExpr (dMut 4 fAppend (aCons (dIf (dTst (dBin fIsN (vS 3) (vT (dC .non)))) (dBin fMod (vT (dCall (on1 fInt) (vCons (vT (dBin fMul (vT (dBin fIx (vS 4) (vT (dBin fIx (vS 6) (vT (dC (.int 1))))))) (vT (dBin fIx (vS 4) (vT (dBin fIx (vS 6) (vT (dC (.int 2))))))))) vNil))) (vS 0)) (dBin fIx (vS 3) (vS 5))) aNil)))
  (sAsg (dBin fAdd (vS 5) (vT (dC (.int 1)))) (tName 5)))))
def b__law_walk : En → Out :=
  (sSeq (sPar 4 5 (aCons (dLc (iAny (dVar 2)) [7] (tName 7) dYes e1__law_walk) (aCons (dC (.int 0)) aNil)))
  (sSeq (sFor (iAny (dBin fIx (vS 1) (vT (dC (.int 1))))) (tName 6) l1__law_walk)
  (sRet (dMove 4))))
def d__law_walk : Den := denFn [true, true, true, true] 8 b__law_walk
theorem R__law_walk {x0 x1 x2 x3 : O} {o : O} {e : En} {ps : List (Option O)} (h : b__law_walk [.p x0, .p x1, .p x2, .p x3, .no, .no, .no, .no] = .rt o e) (hp : outE 4 e = ps := by rfl) : d__law_walk [x0, x1, x2, x3] = .ok o ps := by
  show denFn [true, true, true, true] 8 b__law_walk [x0, x1, x2, x3] = _
  unfold denFn
  rw [show initE [true, true, true, true] [x0, x1, x2, x3] 8 = [.p x0, .p x1, .p x2, .p x3, .no, .no, .no, .no] from rfl, h, ← hp]; rfl
theorem ok__law_walk : FnOk P w K mg base (L2.CX P w) 1 Fx.a__law_walk Fx.fd__law_walk ["q", "sheet", "inputs", "products"] (spD ⟨K, Fx.cl.f, none⟩ 4 d__law_walk) := by
  refine fn_ok (cl := Fx.cl) (k := 0) rfl Fx.F__law_walk sc__law_walk rfl (by decide) fun cdv A outer s H E hr => ?_
  exact (show HSs _ _ _ _ b__law_walk from (hss_cons (hs_par (ps_par (i := 4) (j := 5) rfl sc__law_walk.nd rfl rfl (by decide) rfl rfl (ha_cons (he_lc (own := [("one", 7)]) (di := (iAny (dVar 2))) (t := (tName 7)) (dc := dYes) (de := e1__law_walk) (pe_lc rfl sc__law_walk.nd (hi_any (he_var (pv 2))) (blkOk_by (own := [("one", 7)]) (N := sN__law_walk) (sc := defScope s__law_walk) (by decide +kernel)) (fun _ _ _ _ _ => (hg_name (pg_name (i := 7) sc__law_walk.nd rfl (by first | exact .inl rfl | exact .inr rfl)))) (fun _ _ _ _ _ => hts_nil) (fun _ _ _ _ _ => (he_mod (hv_of (he_callTy (f := (on1 fInt)) call_int1 cInt (by rfl) Fx.z_int rfl (hvs_cons (hv_name (pv 7)) hvs_nil))) (hv_name (pv 0)))))) (ha_cons he_int ha_nil)) rfl))
      (hss_cons (hs_for (ss := [6]) (passes_of rfl) rfl (hi_any (he_sbs (hu_of hr) (hv_name (pv 1)) (hv_of he_int) (fun _ _ => rfl))) (hg_name (pg_name (i := 6) sc__law_walk.nd rfl (by first | exact .inl rfl | exact .inr rfl))) (hss_one (hs_if (ht_cmp (f := fEq) (OpR.or op_eq (op_eqD hr.units)) bEq (hv_of (he_sbs (hu_of hr) (hv_name (pv 6)) (hv_of he_int) (fun _ _ => rfl))) (hv_of he_str) (nomark _)) (hss_one (hs_expr (he_mut (id := "list.append") mAppend (pe_bm PySem.F.plainAttrs_list PySem.F.slot_list_append PySem.F.type_list_append mt_append (pv 4) (ha_cons (he_mod (hv_of (he_callTy (f := (on1 fInt)) call_int1 cInt (by rfl) Fx.z_int rfl (hvs_cons (hv_of (he_add (hv_of (he_sbs (hu_of hr) (hv_name (pv 4)) (hv_of (he_sbs (hu_of hr) (hv_name (pv 6)) (hv_of he_int) (fun _ _ => rfl))) (fun _ _ => rfl))) (hv_of (he_sbs (hu_of hr) (hv_name (pv 4)) (hv_of (he_sbs (hu_of hr) (hv_name (pv 6)) (hv_of he_int) (fun _ _ => rfl))) (fun _ _ => rfl))))) hvs_nil))) (hv_name (pv 0))) ha_nil))))) (hss_one (hs_if (ht_cmp (f := fEq) (OpR.or op_eq (op_eqD hr.units)) bEq (hv_of (he_sbs (hu_of hr) (hv_name (pv 6)) (hv_of he_int) (fun _ _ => rfl))) (hv_of he_str) (nomark _)) (hss_one (hs_expr (he_mut (id := "list.append") mAppend (pe_bm PySem.F.plainAttrs_list PySem.F.slot_list_append PySem.F.type_list_append mt_append (pv 4) (ha_cons (he_mod (hv_of (he_callTy (f := (on1 fInt)) call_int1 cInt (by rfl) Fx.z_int rfl (hvs_cons (hv_of (he_add (hv_of (he_mul (hv_of (he_sbs (hu_of hr) (hv_name (pv 6)) (hv_of he_int) (fun _ _ => rfl))) (hv_of (he_sbs (hu_of hr) (hv_name (pv 4)) (hv_of (he_sbs (hu_of hr) (hv_name (pv 6)) (hv_of he_int) (fun _ _ => rfl))) (fun _ _ => rfl))))) (hv_of (he_sbs (hu_of hr) (hv_name (pv 6)) (hv_of he_int) (fun _ _ => rfl))))) hvs_nil))) (hv_name (pv 0))) ha_nil))))) (hss_cons (hs_expr (he_mut (id := "list.append") mAppend (pe_bm PySem.F.plainAttrs_list PySem.F.slot_list_append PySem.F.type_list_append mt_append (pv 4) (ha_cons (he_if (ht_cmp (f := fIsN) op_isN bIsN (hv_name (pv 3)) (hv_of he_non) (nomark _)) (he_mod (hv_of (he_callTy (f := (on1 fInt)) call_int1 cInt (by rfl) Fx.z_int rfl (hvs_cons (hv_of (he_mul (hv_of (he_sbs (hu_of hr) (hv_name (pv 4)) (hv_of (he_sbs (hu_of hr) (hv_name (pv 6)) (hv_of he_int) (fun _ _ => rfl))) (fun _ _ => rfl))) (hv_of (he_sbs (hu_of hr) (hv_name (pv 4)) (hv_of (he_sbs (hu_of hr) (hv_name (pv 6)) (hv_of he_int) (fun _ _ => rfl))) (fun _ _ => rfl))))) hvs_nil))) (hv_name (pv 0))) (he_sbs (hu_of hr) (hv_name (pv 3)) (hv_name (pv 5)) (fun _ _ => rfl))) ha_nil))))
      (hss_one (hs_asg (ss := [5]) (he_add (hv_name (pv 5)) (hv_of he_int)) (hg_name (pg_name (i := 5) sc__law_walk.nd rfl (by first | exact .inl rfl | exact .inr rfl)))))))))))
      (hss_one (hs_ret (he_move (pv 4)))))))
theorem kb__law_base_1_ : KB K Fx.fd__law_base ["sheet"] [] 1 0 [0] := KB.of Fx.F__law_base (fun _ _ _ _ _ _ us ws h0 h1 => match us, ws, h0, h1 with | [_], [], _, _ => rfl) (by decide)
abbrev e1__law_base : En → Rs O :=
  (dBin fAdd (vT (dBin fIx (vS 0) (vT (dC (.int 0))))) (vS 1))
abbrev c1__law_base : En → Rs Bool :=
  (dTst (dBin fEq (vT (dBin fIx (vT (dBin fIx (vT (dBin fIx (vS 0) (vT (dC (.int 1))))) (vS 1))) (vT (dC (.int 0))))) (vT (dC (.str (Str.ofString "times"))))))
def b__law_base : En → Out :=
  (sRet (dBin fAdd (vT (dLRg (rg1 (vT (dBin fIx (vS 0) (vT (dC (.int 0)))))))) (vT (dLc (iOps (vCons (vT (dCall fLenU (vCons (vT (dBin fIx (vS 0) (vT (dC (.int 1))))) vNil))) vNil) gR1) [1] (tName 1) c1__law_base e1__law_base))))
def d__law_base : Den := denFn [true] 2 b__law_base
theorem R__law_base {x0 : O} {o : O} {e : En} {ps : List (Option O)} (h : b__law_base [.p x0, .no] = .rt o e) (hp : outE 1 e = ps := by rfl) : d__law_base [x0] = .ok o ps := by
  show denFn [true] 2 b__law_base [x0] = _
  unfold denFn
  rw [show initE [true] [x0] 2 = [.p x0, .no] from rfl, h, ← hp]; rfl
theorem ok__law_base : FnOk P w K mg base (L2.CX P w) 1 Fx.a__law_base Fx.fd__law_base ["sheet"] (spD ⟨K, Fx.cl.f, none⟩ 1 d__law_base) := by
  refine fn_ok (cl := Fx.cl) (k := 0) rfl Fx.F__law_base sc__law_base rfl (by decide) fun cdv A outer s H E hr => ?_
  exact (show HSs _ _ _ _ b__law_base from (hss_one (hs_ret (he_add (hv_of (he_listRg rfl (by rfl) Fx.z_list (hrg_1 (by rfl) Fx.z_range (hv_of (he_sbs (hu_of hr) (hv_name (pv 0)) (hv_of he_int) (fun _ _ => rfl)))))) (hv_of (he_lc (own := [("k", 1)]) (di := (iOps (vCons (vT (dCall fLenU (vCons (vT (dBin fIx (vS 0) (vT (dC (.int 1))))) vNil))) vNil) gR1)) (t := (tName 1)) (dc := c1__law_base) (de := e1__law_base) (pe_lc rfl sc__law_base.nd (hi_range1 (by rfl) Fx.z_range (hvs_cons (hv_of (he_callB (f := fLenU) (CallR.or call_len_seq (CallR.or call_len_str call_lenD)) cLenU (by rfl) Fx.z_len rfl (hvs_cons (hv_of (he_sbs (hu_of hr) (hv_name (pv 0)) (hv_of he_int) (fun _ _ => rfl))) hvs_nil))) hvs_nil)) (blkOk_by (own := [("k", 1)]) (N := sN__law_base) (sc := defScope s__law_base) (by decide +kernel)) (fun _ _ _ _ _ => (hg_name (pg_name (i := 1) sc__law_base.nd rfl (by first | exact .inl rfl | exact .inr rfl)))) (fun _ _ _ _ _ => (hts_one (ht_cmp (f := fEq) (OpR.or op_eq (op_eqD hr.units)) bEq (hv_of (he_sbs (hu_of hr) (hv_of (he_sbs (hu_of hr) (hv_of (he_sbs (hu_of hr) (hv_name (pv 0)) (hv_of he_int) (fun _ _ => rfl))) (hv_name (pv 1)) (fun _ _ => rfl))) (hv_of he_int) (fun _ _ => rfl))) (hv_of he_str) (nomark _)))) (fun _ _ _ _ _ => (he_add (hv_of (he_sbs (hu_of hr) (hv_name (pv 0)) (hv_of he_int) (fun _ _ => rfl))) (hv_name (pv 1)))))))))))
theorem kb__law_forms_2_ : KB K Fx.fd__law_forms ["q", "sheet"] [] 2 0 [0, 1] := KB.of Fx.F__law_forms (fun _ _ _ _ _ _ us ws h0 h1 => match us, ws, h0, h1 with | [_, _], [], _, _ => rfl) (by decide)
abbrev e1__law_forms : En → Rs O :=
  (dFz (dLst aNil))
abbrev e2__law_forms : En → Rs O :=
  (dCall (on1 fInt) (vCons (vT (dBin fEq (vS 9) (vS 5))) vNil))
abbrev e3__law_forms : En → Rs O :=
  (dFz (dBin fAdd (vT (dBin fIx (vS 4) (vS 10))) (vT (dLst (aCons (dBin fMod (vT (dCall (on1 fInt) (vCons (vT (dBin fSub (vT (dBin fIx (vS 7) (vS 10))) (vT (dBin fIx (vS 3) (vS 10))))) vNil))) (vS 0)) aNil)))))
abbrev l1__law_forms : En → Out :=
  (sSeq (sAsg (dLc (iOps (vCons (vT (dCall fLenU (vCons (vS 2) vNil))) vNil) gR1) [9] (tName 9) dYes e2__law_forms) (tName 6))
  (sSeq (sAsg (dCallF d__law_walk [0, 1, 2, 3] (cCons (gName 0) (cLate 1 (cCons (gVal (dSl fSl (vS 6) oNone (oSome (vT (dBin fIx (vS 1) (vT (dC (.int 0)))))))) (cCons (gVal (dSl fSl (vS 6) (oSome (vT (dBin fIx (vS 1) (vT (dC (.int 0)))))) oNone)) cNil))))) (tName 7))
  (sAsg (dLc (iOps (vCons (vT (dCall fLenU (vCons (vS 3) vNil))) vNil) gR1) [10] (tName 10) dYes e3__law_forms) (tName 4))))
abbrev e4__law_forms : En → Rs O :=
  (dCall (on1 fTuple) (vCons (vT (dBin fAdd (vT (dBin fIx (vS 4) (vS 10))) (vT (dLst (aCons (dBin fIx (vS 3) (vS 10)) aNil))))) vNil))
def b__law_forms : En → Out :=
  (sSeq (sAsg (dCallF d__law_base [0] (cCons (gName 1) cNil)) (tName 2))
  (sSeq (sAsg (dCallF d__law_walk [0, 1, 2, 3] (cCons (gName 0) (cLate 1 (cCons (gVal (dBin fMul (vT (dLst (aCons (dC (.int 0)) aNil))) (vT (dBin fIx (vS 1) (vT (dC (.int 0))))))) (cCons (gVal (dBin fMul (vT (dLst (aCons (dC (.int 0)) aNil))) (vT (dBin fSub (vT (dCall fLenU (vCons (vS 2) vNil))) (vT (dBin fIx (vS 1) (vT (dC (.int 0))))))))) cNil))))) (tName 3))
  (sSeq (sAsg (dLc (iAny (dVar 3)) [8] (tName 8) dYes e1__law_forms) (tName 4))
  (sSeq (sFor (iOps (vCons (vT (dCall fLenU (vCons (vS 2) vNil))) vNil) gR1) (tName 5) l1__law_forms)
  (sRet (dCall (on1 fTuple) (vCons (vT (dLc (iOps (vCons (vT (dCall fLenU (vCons (vS 3) vNil))) vNil) gR1) [10] (tName 10) dYes e4__law_forms)) vNil)))))))
def d__law_forms : Den := denFn [true, true] 11 b__law_forms
theorem R__law_forms {x0 x1 : O} {o : O} {e : En} {ps : List (Option O)} (h : b__law_forms [.p x0, .p x1, .no, .no, .no, .no, .no, .no, .no, .no, .no] = .rt o e) (hp : outE 2 e = ps := by rfl) : d__law_forms [x0, x1] = .ok o ps := by
  show denFn [true, true] 11 b__law_forms [x0, x1] = _
  unfold denFn
  rw [show initE [true, true] [x0, x1] 11 = [.p x0, .p x1, .no, .no, .no, .no, .no, .no, .no, .no, .no] from rfl, h, ← hp]; rfl
theorem ok__law_forms : FnOk P w K mg base (L2.CX P w) 2 Fx.a__law_forms Fx.fd__law_forms ["q", "sheet"] (spD ⟨K, Fx.cl.f, none⟩ 2 d__law_forms) := by
  refine fn_ok (cl := Fx.cl) (k := 1) rfl Fx.F__law_forms sc__law_forms rfl (by decide) fun cdv A outer s H E hr => ?_
  exact (show HSs _ _ _ _ b__law_forms from (hss_cons (hs_asg (ss := [2]) (he_fn (ok__law_base Fx) (hr.mono (by first | decide | omega)) (takes_of rfl rfl rfl rfl) (by rfl) Fx.g__law_base Fx.F__law_base.kp (kb__law_base_1_ Fx) (hc_cons (ga_name (pv 1)) hc_nil)) (hg_name (pg_name (i := 2) sc__law_forms.nd rfl (by first | exact .inl rfl | exact .inr rfl))))
      (hss_cons (hs_asg (ss := [3]) (he_fn (ok__law_walk Fx) (hr.mono (by first | decide | omega)) (takes_of rfl rfl rfl rfl) (by rfl) Fx.g__law_walk Fx.F__law_walk.kp (kb__law_walk_4_ Fx) (hc_cons (ga_name (pv 0)) (hc_late (pv 1) (hc_cons (ga_val (he_mul (hv_of (he_lst (ha_cons he_int ha_nil))) (hv_of (he_sbs (hu_of hr) (hv_name (pv 1)) (hv_of he_int) (fun _ _ => rfl))))) (hc_cons (ga_val (he_mul (hv_of (he_lst (ha_cons he_int ha_nil))) (hv_of (he_sub (hv_of (he_callB (f := fLenU) (CallR.or call_len_seq (CallR.or call_len_str call_lenD)) cLenU (by rfl) Fx.z_len rfl (hvs_cons (hv_name (pv 2)) hvs_nil))) (hv_of (he_sbs (hu_of hr) (hv_name (pv 1)) (hv_of he_int) (fun _ _ => rfl))))))) hc_nil))))) (hg_name (pg_name (i := 3) sc__law_forms.nd rfl (by first | exact .inl rfl | exact .inr rfl))))
      (hss_cons (hs_asg (ss := [4]) (he_lc (own := [("wire", 8)]) (di := (iAny (dVar 3))) (t := (tName 8)) (dc := dYes) (de := e1__law_forms) (pe_lc rfl sc__law_forms.nd (hi_any (he_var (pv 3))) (blkOk_by (own := [("wire", 8)]) (N := sN__law_forms) (sc := defScope s__law_forms) (by decide +kernel)) (fun _ _ _ _ _ => (hg_name (pg_name (i := 8) sc__law_forms.nd rfl (by first | exact .inl rfl | exact .inr rfl)))) (fun _ _ _ _ _ => hts_nil) (fun _ _ _ _ _ => (he_fz (he_lst ha_nil))))) (hg_name (pg_name (i := 4) sc__law_forms.nd rfl (by first | exact .inl rfl | exact .inr rfl))))
      (hss_cons (hs_for (ss := [5]) (passes_of rfl) rfl (hi_range1 (by rfl) Fx.z_range (hvs_cons (hv_of (he_callB (f := fLenU) (CallR.or call_len_seq (CallR.or call_len_str call_lenD)) cLenU (by rfl) Fx.z_len rfl (hvs_cons (hv_name (pv 2)) hvs_nil))) hvs_nil)) (hg_name (pg_name (i := 5) sc__law_forms.nd rfl (by first | exact .inl rfl | exact .inr rfl))) (hss_cons (hs_setLc (own := [("j", 9)]) (di := (iOps (vCons (vT (dCall fLenU (vCons (vS 2) vNil))) vNil) gR1)) (t := (tName 9)) (dc := dYes) (de := e2__law_forms) (ps_setLc (i := 6) rfl sc__law_forms.nd rfl rfl (sw_true rfl rfl rfl (by decide +kernel)) (hi_range1 (by rfl) Fx.z_range (hvs_cons (hv_of (he_callB (f := fLenU) (CallR.or call_len_seq (CallR.or call_len_str call_lenD)) cLenU (by rfl) Fx.z_len rfl (hvs_cons (hv_name (pv 2)) hvs_nil))) hvs_nil)) (blkOk_by (own := [("j", 9)]) (N := sN__law_forms) (sc := defScope s__law_forms) (by decide +kernel)) (fun _ _ _ _ _ => (hg_name (pg_name (i := 9) sc__law_forms.nd rfl (by first | exact .inl rfl | exact .inr rfl)))) (fun _ _ _ _ _ => hts_nil) (fun _ _ _ _ _ => (he_callTy (f := (on1 fInt)) call_int1 cInt (by rfl) Fx.z_int rfl (hvs_cons (hv_of (he_cmp (f := fEq) (OpR.or op_eq (op_eqD hr.units)) bEq (hv_name (pv 9)) (hv_name (pv 5)) (nomark _))) hvs_nil)))))
      (hss_cons (hs_asg (ss := [7]) (he_fn (ok__law_walk Fx) (hr.mono (by first | decide | omega)) (takes_of rfl rfl rfl rfl) (by rfl) Fx.g__law_walk Fx.F__law_walk.kp (kb__law_walk_4_ Fx) (hc_cons (ga_name (pv 0)) (hc_late (pv 1) (hc_cons (ga_val (he_sl (hv_name (pv 6)) ho_none (ho_some (hv_of (he_sbs (hu_of hr) (hv_name (pv 1)) (hv_of he_int) (fun _ _ => rfl)))))) (hc_cons (ga_val (he_sl (hv_name (pv 6)) (ho_some (hv_of (he_sbs (hu_of hr) (hv_name (pv 1)) (hv_of he_int) (fun _ _ => rfl)))) ho_none)) hc_nil))))) (hg_name (pg_name (i := 7) sc__law_forms.nd rfl (by first | exact .inl rfl | exact .inr rfl))))
      (hss_one (hs_asg (ss := [4]) (he_lc (own := [("w", 10)]) (di := (iOps (vCons (vT (dCall fLenU (vCons (vS 3) vNil))) vNil) gR1)) (t := (tName 10)) (dc := dYes) (de := e3__law_forms) (pe_lc rfl sc__law_forms.nd (hi_range1 (by rfl) Fx.z_range (hvs_cons (hv_of (he_callB (f := fLenU) (CallR.or call_len_seq (CallR.or call_len_str call_lenD)) cLenU (by rfl) Fx.z_len rfl (hvs_cons (hv_name (pv 3)) hvs_nil))) hvs_nil)) (blkOk_by (own := [("w", 10)]) (N := sN__law_forms) (sc := defScope s__law_forms) (by decide +kernel)) (fun _ _ _ _ _ => (hg_name (pg_name (i := 10) sc__law_forms.nd rfl (by first | exact .inl rfl | exact .inr rfl)))) (fun _ _ _ _ _ => hts_nil) (fun _ _ _ _ _ => (he_fz (he_add (hv_of (he_sbs (hu_of hr) (hv_name (pv 4)) (hv_name (pv 10)) (fun _ _ => rfl))) (hv_of (he_lst (ha_cons (he_mod (hv_of (he_callTy (f := (on1 fInt)) call_int1 cInt (by rfl) Fx.z_int rfl (hvs_cons (hv_of (he_sub (hv_of (he_sbs (hu_of hr) (hv_name (pv 7)) (hv_name (pv 10)) (fun _ _ => rfl))) (hv_of (he_sbs (hu_of hr) (hv_name (pv 3)) (hv_name (pv 10)) (fun _ _ => rfl))))) hvs_nil))) (hv_name (pv 0))) ha_nil)))))))) (hg_name (pg_name (i := 4) sc__law_forms.nd rfl (by first | exact .inl rfl | exact .inr rfl))))))))
      (hss_one (hs_ret (he_callTy (f := (on1 fTuple)) call_tupleN cTuple (by rfl) Fx.z_tuple rfl (hvs_cons (hv_of (he_lc (own := [("w", 10)]) (di := (iOps (vCons (vT (dCall fLenU (vCons (vS 3) vNil))) vNil) gR1)) (t := (tName 10)) (dc := dYes) (de := e4__law_forms) (pe_lc rfl sc__law_forms.nd (hi_range1 (by rfl) Fx.z_range (hvs_cons (hv_of (he_callB (f := fLenU) (CallR.or call_len_seq (CallR.or call_len_str call_lenD)) cLenU (by rfl) Fx.z_len rfl (hvs_cons (hv_name (pv 3)) hvs_nil))) hvs_nil)) (blkOk_by (own := [("w", 10)]) (N := sN__law_forms) (sc := defScope s__law_forms) (by decide +kernel)) (fun _ _ _ _ _ => (hg_name (pg_name (i := 10) sc__law_forms.nd rfl (by first | exact .inl rfl | exact .inr rfl)))) (fun _ _ _ _ _ => hts_nil) (fun _ _ _ _ _ => (he_callTy (f := (on1 fTuple)) call_tupleN cTuple (by rfl) Fx.z_tuple rfl (hvs_cons (hv_of (he_add (hv_of (he_sbs (hu_of hr) (hv_name (pv 4)) (hv_name (pv 10)) (fun _ _ => rfl))) (hv_of (he_lst (ha_cons (he_sbs (hu_of hr) (hv_name (pv 3)) (hv_name (pv 10)) (fun _ _ => rfl)) ha_nil))))) hvs_nil)))))) hvs_nil)))))))))
theorem kb__law_is_told_3_ : KB K Fx.fd__law_is_told ["state", "q", "sheet"] [] 3 0 [0, 1, 2] := KB.of Fx.F__law_is_told (fun _ _ _ _ _ _ us ws h0 h1 => match us, ws, h0, h1 with | [_, _, _], [], _, _ => rfl) (by decide)
abbrev e1__law_is_told : En → Rs O :=
  (dCallF d__law_number [0] (cCons (gName 0) cNil))
abbrev e2__law_is_told : En → Rs O :=
  (dBin fIx (vS 7) (vS 15))
abbrev e3__law_is_told : En → Rs O :=
  (dCallF d__law_take [0, 1] (cCons (gName 0) (cCons (gName 1) cNil)))
abbrev e4__law_is_told : En → Rs O :=
  (dBin fIx (vS 7) (vS 14))
abbrev e5__law_is_told : En → Rs O :=
  (dBin fMul (vT (dBin fIx (vT (dBin fIx (vS 4) (vS 12))) (vS 14))) (vT (dBin fIx (vS 10) (vS 14))))
abbrev l1__law_is_told : En → Out :=
  (sSeq (sAsg (dBin fAdd (vT (dBin fIx (vT (dBin fIx (vS 4) (vS 12))) (vT (dUn fNeg (vT (dC (.int 1))))))) (vT (dCall (on1 fSum) (vCons (vT (dLc (iOps (vCons (vT (dCall fLenU (vCons (vS 10) vNil))) vNil) gR1) [14] (tName 14) dYes e5__law_is_told)) vNil)))) (tName 13))
  (sIf (dTst (dBin fNe (vT (dBin fMod (vT (dCall (on1 fInt) (vCons (vS 13) vNil))) (vS 1))) (vT (dBin fIx (vS 11) (vS 12))))) (sRet (dC (.bl false))) sNext))
abbrev l2__law_is_told : En → Out :=
  (sFor (iOps (vCons (vT (dCall fLenU (vCons (vS 11) vNil))) vNil) gR1) (tName 12) l1__law_is_told)
abbrev l3__law_is_told : En → Out :=
  (sSeq (sAsg (dCall (on1 fTuple) (vCons (vT (dLc (iOps (vCons (vT (dBin fIx (vS 2) (vT (dC (.int 0))))) vNil) gR1) [14] (tName 14) dYes e1__law_is_told)) vNil)) (tName 6))
  (sSeq (sAsg (dCallF d__law_walk [0, 1, 2, 3] (cCons (gName 1) (cCons (gName 2) (cCons (gName 6) (cCons (gVal (dC .non)) cNil))))) (tName 7))
  (sSeq (sIf (dOrT (dNotT (dTst (dCallF (d__law_same 24) [0, 1] (cCons (gVal (dCallF d_wire_values [0, 1, 2] (cCons (gName 1) (cCons (gName 2) (cCons (gName 6) cNil))))) (cCons (gVal (dCall (on1 fTuple) (vCons (vS 7) vNil))) cNil))))) (dNotT (dTst (dCallF (d__law_same 24) [0, 1] (cCons (gVal (dCallF d_wire_values [2, 1, 0] (cCons (gName 6) (cCons (gName 2) (cCons (gName 1) cNil))))) (cCons (gVal (dCall (on1 fTuple) (vCons (vS 7) vNil))) cNil)))))) (sRet (dC (.bl false))) sNext)
  (sSeq (sAsg (dCall (on1 fTuple) (vCons (vT (dLc (iAny (dBin fIx (vS 2) (vT (dC (.int 2))))) [15] (tName 15) dYes e2__law_is_told)) vNil)) (tName 8))
  (sSeq (sIf (dOrT (dNotT (dTst (dCallF (d__law_same 24) [0, 1] (cCons (gVal (dCallF d_results_of [0, 1, 2] (cCons (gName 1) (cCons (gName 2) (cCons (gName 6) cNil))))) (cCons (gName 8) cNil))))) (dNotT (dTst (dCallF (d__law_same 24) [0, 1] (cCons (gVal (dCallF d_results_of [2, 1, 0] (cCons (gName 6) (cCons (gName 2) (cCons (gName 1) cNil))))) (cCons (gName 8) cNil)))))) (sRet (dC (.bl false))) sNext)
  (sSeq (sAsg (dLc (iAny (dVar 3)) [14] (tName 14) dYes e3__law_is_told) (tName 9))
  (sFor (iAny (dTup (aCons (dTup (aCons (dFz (dLc (iAny (dVar 3)) [14] (tName 14) dYes e4__law_is_told)) (aCons (dVar 7) aNil))) (aCons (dTup (aCons (dVar 9) (aCons (dCallF d__law_walk [0, 1, 2, 3] (cCons (gName 1) (cLate 2 (cCons (gVal (dSl fSl (vS 9) oNone (oSome (vT (dBin fIx (vS 2) (vT (dC (.int 0)))))))) (cCons (gVal (dSl fSl (vS 9) (oSome (vT (dBin fIx (vS 2) (vT (dC (.int 0)))))) oNone)) cNil))))) aNil))) aNil)))) (tTupl (tgCons (tName 10) (tgCons (tName 11) tgNil))) l2__law_is_told)))))))
def b__law_is_told : En → Out :=
  (sSeq (sAsg (dCallF d__law_base [0] (cCons (gName 2) cNil)) (tName 3))
  (sSeq (sAsg (dCallF d__law_forms [0, 1] (cCons (gName 1) (cCons (gName 2) cNil))) (tName 4))
  (sSeq (sIf (dOrT (dNotT (dTst (dCallF (d__law_same 24) [0, 1] (cCons (gVal (dCallF d_base_wires [0] (cCons (gName 2) cNil))) (cCons (gVal (dCall (on1 fTuple) (vCons (vS 3) vNil))) cNil))))) (dNotT (dTst (dCallF (d__law_same 24) [0, 1] (cCons (gVal (dCallF d_base_wires [0] (cCons (gName 2) cNil))) (cCons (gVal (dCall (on1 fTuple) (vCons (vS 3) vNil))) cNil)))))) (sRet (dC (.bl false))) sNext)
  (sSeq (sIf (dOrT (dNotT (dTst (dCallF (d__law_same 24) [0, 1] (cCons (gVal (dCallF d_wire_forms [0, 1] (cCons (gName 1) (cCons (gName 2) cNil)))) (cCons (gName 4) cNil))))) (dNotT (dTst (dCallF (d__law_same 24) [0, 1] (cCons (gVal (dCallF d_wire_forms [1, 0] (cCons (gName 2) (cCons (gName 1) cNil)))) (cCons (gName 4) cNil)))))) (sRet (dC (.bl false))) sNext)
  (sSeq (sFor (iOps (vCons (vT (dC (.int 2))) vNil) gR1) (tName 5) l3__law_is_told)
  (sRet (dC (.bl true))))))))
def d__law_is_told : Den := denFn [true, true, true] 16 b__law_is_told
theorem R__law_is_told {x0 x1 x2 : O} {o : O} {e : En} {ps : List (Option O)} (h : b__law_is_told [.p x0, .p x1, .p x2, .no, .no, .no, .no, .no, .no, .no, .no, .no, .no, .no, .no, .no] = .rt o e) (hp : outE 3 e = ps := by rfl) : d__law_is_told [x0, x1, x2] = .ok o ps := by
  show denFn [true, true, true] 16 b__law_is_told [x0, x1, x2] = _
  unfold denFn
  rw [show initE [true, true, true] [x0, x1, x2] 16 = [.p x0, .p x1, .p x2, .no, .no, .no, .no, .no, .no, .no, .no, .no, .no, .no, .no, .no] from rfl, h, ← hp]; rfl
theorem ok__law_is_told : FnOk P w K mg base (L2.CX P w) 25 Fx.a__law_is_told Fx.fd__law_is_told ["state", "q", "sheet"] (spD ⟨K, Fx.cl.f, none⟩ 3 d__law_is_told) := by
  refine fn_ok (cl := Fx.cl) (k := 24) rfl Fx.F__law_is_told sc__law_is_told rfl (by decide) fun cdv A outer s H E hr => ?_
  exact (show HSs _ _ _ _ b__law_is_told from (hss_cons (hs_asg (ss := [3]) (he_fn (ok__law_base Fx) (hr.mono (by first | decide | omega)) (takes_of rfl rfl rfl rfl) (by rfl) Fx.g__law_base Fx.F__law_base.kp (kb__law_base_1_ Fx) (hc_cons (ga_name (pv 2)) hc_nil)) (hg_name (pg_name (i := 3) sc__law_is_told.nd rfl (by first | exact .inl rfl | exact .inr rfl))))
      (hss_cons (hs_asg (ss := [4]) (he_fn (ok__law_forms Fx) (hr.mono (by first | decide | omega)) (takes_of rfl rfl rfl rfl) (by rfl) Fx.g__law_forms Fx.F__law_forms.kp (kb__law_forms_2_ Fx) (hc_cons (ga_name (pv 1)) (hc_cons (ga_name (pv 2)) hc_nil))) (hg_name (pg_name (i := 4) sc__law_is_told.nd rfl (by first | exact .inl rfl | exact .inr rfl))))
      (hss_cons (hs_if (ht_w (hw_or (ht_not (ht_val (he_fn (ok__law_same Fx 24) (hr.mono (by first | decide | omega)) (takes_of rfl rfl rfl rfl) (by rfl) Fx.g__law_same Fx.F__law_same.kp (kb__law_same_2_ Fx) (hc_cons (ga_val (he_fn (ok_base_wires Fx) (hr.mono (by first | decide | omega)) (takes_of rfl rfl rfl rfl) (by rfl) Fx.g_base_wires Fx.F_base_wires.kp (kb_base_wires_1_ Fx) (hc_cons (ga_name (pv 2)) hc_nil))) (hc_cons (ga_val (he_callTy (f := (on1 fTuple)) call_tupleN cTuple (by rfl) Fx.z_tuple rfl (hvs_cons (hv_name (pv 3)) hvs_nil))) hc_nil))))) (hw_or1 (ht_not (ht_val (he_fn (ok__law_same Fx 24) (hr.mono (by first | decide | omega)) (takes_of rfl rfl rfl rfl) (by rfl) Fx.g__law_same Fx.F__law_same.kp (kb__law_same_2_ Fx) (hc_cons (ga_val (he_fnK0 (ok_base_wires Fx) (hr.mono (by first | decide | omega)) (takes_of rfl rfl rfl rfl) (by rfl) Fx.g_base_wires Fx.F_base_wires.kp (kb_base_wires_0_sheet Fx) (hck_cons (ga_name (pv 2)) hck_nil))) (hc_cons (ga_val (he_callTy (f := (on1 fTuple)) call_tupleN cTuple (by rfl) Fx.z_tuple rfl (hvs_cons (hv_name (pv 3)) hvs_nil))) hc_nil)))))))) (hss_one (hs_ret he_bl)) hss_nil)
      (hss_cons (hs_if (ht_w (hw_or (ht_not (ht_val (he_fn (ok__law_same Fx 24) (hr.mono (by first | decide | omega)) (takes_of rfl rfl rfl rfl) (by rfl) Fx.g__law_same Fx.F__law_same.kp (kb__law_same_2_ Fx) (hc_cons (ga_val (he_fn (ok_wire_forms Fx) (hr.mono (by first | decide | omega)) (takes_of rfl rfl rfl rfl) (by rfl) Fx.g_wire_forms Fx.F_wire_forms.kp (kb_wire_forms_2_ Fx) (hc_cons (ga_name (pv 1)) (hc_cons (ga_name (pv 2)) hc_nil)))) (hc_cons (ga_name (pv 4)) hc_nil))))) (hw_or1 (ht_not (ht_val (he_fn (ok__law_same Fx 24) (hr.mono (by first | decide | omega)) (takes_of rfl rfl rfl rfl) (by rfl) Fx.g__law_same Fx.F__law_same.kp (kb__law_same_2_ Fx) (hc_cons (ga_val (he_fnK0 (ok_wire_forms Fx) (hr.mono (by first | decide | omega)) (takes_of rfl rfl rfl rfl) (by rfl) Fx.g_wire_forms Fx.F_wire_forms.kp (kb_wire_forms_0_sheet_q Fx) (hck_cons (ga_name (pv 2)) (hck_cons (ga_name (pv 1)) hck_nil)))) (hc_cons (ga_name (pv 4)) hc_nil)))))))) (hss_one (hs_ret he_bl)) hss_nil)
      (hss_cons (hs_for (ss := [5]) (passes_of rfl) rfl (hi_range1 (by rfl) Fx.z_range (hvs_cons (hv_of he_int) hvs_nil)) (hg_name (pg_name (i := 5) sc__law_is_told.nd rfl (by first | exact .inl rfl | exact .inr rfl))) (hss_cons (hs_asg (ss := [6]) (he_callTy (f := (on1 fTuple)) call_tupleN cTuple (by rfl) Fx.z_tuple rfl (hvs_cons (hv_of (he_lc (own := [("k", 14)]) (di := (iOps (vCons (vT (dBin fIx (vS 2) (vT (dC (.int 0))))) vNil) gR1)) (t := (tName 14)) (dc := dYes) (de := e1__law_is_told) (pe_lc rfl sc__law_is_told.nd (hi_range1 (by rfl) Fx.z_range (hvs_cons (hv_of (he_sbs (hu_of hr) (hv_name (pv 2)) (hv_of he_int) (fun _ _ => rfl))) hvs_nil)) (blkOk_by (own := [("k", 14)]) (N := sN__law_is_told) (sc := defScope s__law_is_told) (by decide +kernel)) (fun _ _ _ _ _ => (hg_name (pg_name (i := 14) sc__law_is_told.nd rfl (by first | exact .inl rfl | exact .inr rfl)))) (fun _ _ _ _ _ => hts_nil) (fun _ _ _ _ _ => (he_fn (ok__law_number Fx) (hr.mono (by first | decide | omega)) takes0 (by rfl) Fx.g__law_number Fx.F__law_number.kp (kb__law_number_1_ Fx) (hc_cons (ga_name (pv 0)) hc_nil)))))) hvs_nil)) (hg_name (pg_name (i := 6) sc__law_is_told.nd rfl (by first | exact .inl rfl | exact .inr rfl))))
      (hss_cons (hs_asg (ss := [7]) (he_fn (ok__law_walk Fx) (hr.mono (by first | decide | omega)) (takes_of rfl rfl rfl rfl) (by rfl) Fx.g__law_walk Fx.F__law_walk.kp (kb__law_walk_4_ Fx) (hc_cons (ga_name (pv 1)) (hc_cons (ga_name (pv 2)) (hc_cons (ga_name (pv 6)) (hc_cons (ga_val he_non) hc_nil))))) (hg_name (pg_name (i := 7) sc__law_is_told.nd rfl (by first | exact .inl rfl | exact .inr rfl))))
      (hss_cons (hs_if (ht_w (hw_or (ht_not (ht_val (he_fn (ok__law_same Fx 24) (hr.mono (by first | decide | omega)) (takes_of rfl rfl rfl rfl) (by rfl) Fx.g__law_same Fx.F__law_same.kp (kb__law_same_2_ Fx) (hc_cons (ga_val (he_fn (ok_wire_values Fx) (hr.mono (by first | decide | omega)) (takes_of rfl rfl rfl rfl) (by rfl) Fx.g_wire_values Fx.F_wire_values.kp (kb_wire_values_3_ Fx) (hc_cons (ga_name (pv 1)) (hc_cons (ga_name (pv 2)) (hc_cons (ga_name (pv 6)) hc_nil))))) (hc_cons (ga_val (he_callTy (f := (on1 fTuple)) call_tupleN cTuple (by rfl) Fx.z_tuple rfl (hvs_cons (hv_name (pv 7)) hvs_nil))) hc_nil))))) (hw_or1 (ht_not (ht_val (he_fn (ok__law_same Fx 24) (hr.mono (by first | decide | omega)) (takes_of rfl rfl rfl rfl) (by rfl) Fx.g__law_same Fx.F__law_same.kp (kb__law_same_2_ Fx) (hc_cons (ga_val (he_fnK0 (ok_wire_values Fx) (hr.mono (by first | decide | omega)) (takes_of rfl rfl rfl rfl) (by rfl) Fx.g_wire_values Fx.F_wire_values.kp (kb_wire_values_0_inputs_sheet_q Fx) (hck_cons (ga_name (pv 6)) (hck_cons (ga_name (pv 2)) (hck_cons (ga_name (pv 1)) hck_nil))))) (hc_cons (ga_val (he_callTy (f := (on1 fTuple)) call_tupleN cTuple (by rfl) Fx.z_tuple rfl (hvs_cons (hv_name (pv 7)) hvs_nil))) hc_nil)))))))) (hss_one (hs_ret he_bl)) hss_nil)
      (hss_cons (hs_asg (ss := [8]) (he_callTy (f := (on1 fTuple)) call_tupleN cTuple (by rfl) Fx.z_tuple rfl (hvs_cons (hv_of (he_lc (own := [("out", 15)]) (di := (iAny (dBin fIx (vS 2) (vT (dC (.int 2)))))) (t := (tName 15)) (dc := dYes) (de := e2__law_is_told) (pe_lc rfl sc__law_is_told.nd (hi_any (he_sbs (hu_of hr) (hv_name (pv 2)) (hv_of he_int) (fun _ _ => rfl))) (blkOk_by (own := [("out", 15)]) (N := sN__law_is_told) (sc := defScope s__law_is_told) (by decide +kernel)) (fun _ _ _ _ _ => (hg_name (pg_name (i := 15) sc__law_is_told.nd rfl (by first | exact .inl rfl | exact .inr rfl)))) (fun _ _ _ _ _ => hts_nil) (fun _ _ _ _ _ => (he_sbs (hu_of hr) (hv_name (pv 7)) (hv_name (pv 15)) (fun _ _ => rfl)))))) hvs_nil)) (hg_name (pg_name (i := 8) sc__law_is_told.nd rfl (by first | exact .inl rfl | exact .inr rfl))))
      (hss_cons (hs_if (ht_w (hw_or (ht_not (ht_val (he_fn (ok__law_same Fx 24) (hr.mono (by first | decide | omega)) (takes_of rfl rfl rfl rfl) (by rfl) Fx.g__law_same Fx.F__law_same.kp (kb__law_same_2_ Fx) (hc_cons (ga_val (he_fn (ok_results_of Fx) (hr.mono (by first | decide | omega)) (takes_of rfl rfl rfl rfl) (by rfl) Fx.g_results_of Fx.F_results_of.kp (kb_results_of_3_ Fx) (hc_cons (ga_name (pv 1)) (hc_cons (ga_name (pv 2)) (hc_cons (ga_name (pv 6)) hc_nil))))) (hc_cons (ga_name (pv 8)) hc_nil))))) (hw_or1 (ht_not (ht_val (he_fn (ok__law_same Fx 24) (hr.mono (by first | decide | omega)) (takes_of rfl rfl rfl rfl) (by rfl) Fx.g__law_same Fx.F__law_same.kp (kb__law_same_2_ Fx) (hc_cons (ga_val (he_fnK0 (ok_results_of Fx) (hr.mono (by first | decide | omega)) (takes_of rfl rfl rfl rfl) (by rfl) Fx.g_results_of Fx.F_results_of.kp (kb_results_of_0_inputs_sheet_q Fx) (hck_cons (ga_name (pv 6)) (hck_cons (ga_name (pv 2)) (hck_cons (ga_name (pv 1)) hck_nil))))) (hc_cons (ga_name (pv 8)) hc_nil)))))))) (hss_one (hs_ret he_bl)) hss_nil)
      (hss_cons (hs_setLc (own := [("k", 14)]) (di := (iAny (dVar 3))) (t := (tName 14)) (dc := dYes) (de := e3__law_is_told) (ps_setLc (i := 9) rfl sc__law_is_told.nd rfl rfl (sw_true rfl rfl rfl (by decide +kernel)) (hi_any (he_var (pv 3))) (blkOk_by (own := [("k", 14)]) (N := sN__law_is_told) (sc := defScope s__law_is_told) (by decide +kernel)) (fun _ _ _ _ _ => (hg_name (pg_name (i := 14) sc__law_is_told.nd rfl (by first | exact .inl rfl | exact .inr rfl)))) (fun _ _ _ _ _ => hts_nil) (fun _ _ _ _ _ => (he_fn (ok__law_take Fx) (hr.mono (by first | decide | omega)) takes0 (by rfl) Fx.g__law_take Fx.F__law_take.kp (kb__law_take_2_ Fx) (hc_cons (ga_name (pv 0)) (hc_cons (ga_name (pv 1)) hc_nil))))))
      (hss_one (hs_for (ss := [10, 11]) (passes_of rfl) rfl (hi_any (he_tup (ha_cons (he_tup (ha_cons (he_fz (he_lc (own := [("k", 14)]) (di := (iAny (dVar 3))) (t := (tName 14)) (dc := dYes) (de := e4__law_is_told) (pe_lc rfl sc__law_is_told.nd (hi_any (he_var (pv 3))) (blkOk_by (own := [("k", 14)]) (N := sN__law_is_told) (sc := defScope s__law_is_told) (by decide +kernel)) (fun _ _ _ _ _ => (hg_name (pg_name (i := 14) sc__law_is_told.nd rfl (by first | exact .inl rfl | exact .inr rfl)))) (fun _ _ _ _ _ => hts_nil) (fun _ _ _ _ _ => (he_sbs (hu_of hr) (hv_name (pv 7)) (hv_name (pv 14)) (fun _ _ => rfl)))))) (ha_cons (he_var (pv 7)) ha_nil))) (ha_cons (he_tup (ha_cons (he_var (pv 9)) (ha_cons (he_fn (ok__law_walk Fx) (hr.mono (by first | decide | omega)) (takes_of rfl rfl rfl rfl) (by rfl) Fx.g__law_walk Fx.F__law_walk.kp (kb__law_walk_4_ Fx) (hc_cons (ga_name (pv 1)) (hc_late (pv 2) (hc_cons (ga_val (he_sl (hv_name (pv 9)) ho_none (ho_some (hv_of (he_sbs (hu_of hr) (hv_name (pv 2)) (hv_of he_int) (fun _ _ => rfl)))))) (hc_cons (ga_val (he_sl (hv_name (pv 9)) (ho_some (hv_of (he_sbs (hu_of hr) (hv_name (pv 2)) (hv_of he_int) (fun _ _ => rfl)))) ho_none)) hc_nil))))) ha_nil))) ha_nil)))) (hg_tup rfl (hgs_cons (hg_name (pg_name (i := 10) sc__law_is_told.nd rfl (by first | exact .inl rfl | exact .inr rfl))) (hgs_cons (hg_name (pg_name (i := 11) sc__law_is_told.nd rfl (by first | exact .inl rfl | exact .inr rfl))) hgs_nil)) (hlen := (tg_len (tg_len tg_len0)))) (hss_one (hs_for (ss := [12]) (passes_of rfl) rfl (hi_range1 (by rfl) Fx.z_range (hvs_cons (hv_of (he_callB (f := fLenU) (CallR.or call_len_seq (CallR.or call_len_str call_lenD)) cLenU (by rfl) Fx.z_len rfl (hvs_cons (hv_name (pv 11)) hvs_nil))) hvs_nil)) (hg_name (pg_name (i := 12) sc__law_is_told.nd rfl (by first | exact .inl rfl | exact .inr rfl))) (hss_cons (hs_asg (ss := [13]) (he_add (hv_of (he_sbs (hu_of hr) (hv_of (he_sbs (hu_of hr) (hv_name (pv 4)) (hv_name (pv 12)) (fun _ _ => rfl))) (hv_of (he_un un_neg uNeg (hv_of he_int))) (fun _ _ => rfl))) (hv_of (he_callB (f := on1 fSum) (cr_sum rfl) cSum (by rfl) Fx.z_sum rfl (hvs_cons (hv_of (he_lc (own := [("k", 14)]) (di := (iOps (vCons (vT (dCall fLenU (vCons (vS 10) vNil))) vNil) gR1)) (t := (tName 14)) (dc := dYes) (de := e5__law_is_told) (pe_lc rfl sc__law_is_told.nd (hi_range1 (by rfl) Fx.z_range (hvs_cons (hv_of (he_callB (f := fLenU) (CallR.or call_len_seq (CallR.or call_len_str call_lenD)) cLenU (by rfl) Fx.z_len rfl (hvs_cons (hv_name (pv 10)) hvs_nil))) hvs_nil)) (blkOk_by (own := [("k", 14)]) (N := sN__law_is_told) (sc := defScope s__law_is_told) (by decide +kernel)) (fun _ _ _ _ _ => (hg_name (pg_name (i := 14) sc__law_is_told.nd rfl (by first | exact .inl rfl | exact .inr rfl)))) (fun _ _ _ _ _ => hts_nil) (fun _ _ _ _ _ => (he_mul (hv_of (he_sbs (hu_of hr) (hv_of (he_sbs (hu_of hr) (hv_name (pv 4)) (hv_name (pv 12)) (fun _ _ => rfl))) (hv_name (pv 14)) (fun _ _ => rfl))) (hv_of (he_sbs (hu_of hr) (hv_name (pv 10)) (hv_name (pv 14)) (fun _ _ => rfl)))))))) hvs_nil)))) (hg_name (pg_name (i := 13) sc__law_is_told.nd rfl (by first | exact .inl rfl | exact .inr rfl))))
      (hss_one (hs_if (ht_cmp (f := fNe) (OpR.or op_ne (op_neD hr.units)) bNe (hv_of (he_mod (hv_of (he_callTy (f := (on1 fInt)) call_int1 cInt (by rfl) Fx.z_int rfl (hvs_cons (hv_name (pv 13)) hvs_nil))) (hv_name (pv 1)))) (hv_of (he_sbs (hu_of hr) (hv_name (pv 11)) (hv_name (pv 12)) (fun _ _ => rfl))) (nomark _)) (hss_one (hs_ret he_bl)) hss_nil))))))))))))))
      (hss_one (hs_ret he_bl))))))))
abbrev l1_law : En → Out :=
  (sIf (dTst (dBin fNe (vT (dCallF d__law_checked [0, 1] (cCons (gName 6) (cCons (gVal (dBin fEq (vT (dCallF d__law_take [0, 1] (cCons (gName 1) (cCons (gVal (dC (.int 2))) cNil)))) (vT (dC (.int 0))))) cNil)))) (vT (dIf (dTst (dCallF d__law_is_sheet [0] (cCons (gName 6) cNil))) (dC (.str (Str.ofString "right"))) (dC (.str (Str.ofString "wrong"))))))) (sRet (dC (.bl false))) sNext)
abbrev l2_law : En → Out :=
  (sSeq (sAsg (dCallF d__law_pick [0, 1] (cCons (gName 1) (cCons (gVal (dLst (aCons (dFz (dLst (aCons (dC (.str (Str.ofString "add"))) (aCons (dC (.str (Str.ofString "scale"))) (aCons (dC (.str (Str.ofString "times"))) aNil))))) (aCons (dFz (dLst (aCons (dC (.str (Str.ofString "add"))) (aCons (dC (.str (Str.ofString "scale"))) (aCons (dC (.str (Str.ofString "times"))) aNil))))) (aCons (dFz (dLst (aCons (dC (.str (Str.ofString "add"))) (aCons (dC (.str (Str.ofString "scale"))) aNil)))) (aCons (dFz (dLst (aCons (dC (.str (Str.ofString "times"))) (aCons (dC (.str (Str.ofString "scale"))) aNil)))) aNil)))))) cNil))) (tName 3))
  (sSeq (sAsg (dCallF d__law_sheet [0, 1, 2, 3] (cLate 1 (cCons (gVal (dCallF d__law_take [0, 1] (cCons (gName 1) (cCons (gVal (dC (.int 7))) cNil)))) (cCons (gVal (dCallF d__law_take [0, 1] (cCons (gName 1) (cCons (gVal (dC (.int 13))) cNil)))) (cCons (gName 3) cNil))))) (tName 4))
  (sSeq (sIf (dTst (dBin fEq (vT (dCallF d__law_take [0, 1] (cCons (gName 1) (cCons (gVal (dC (.int 8))) cNil)))) (vT (dC (.int 0))))) (sAsg (dCallF d__law_sheet [0, 1, 2, 3] (cCons (gName 1) (cCons (gVal (dC (.int 16))) (cCons (gVal (dC (.int 60))) (cCons (gName 3) cNil))))) (tName 4)) sNext)
  (sSeq (sAsg (dCallF d__law_pick [0, 1] (cCons (gName 1) (cCons (gVal (dLst (aCons (dC (.int 3)) (aCons (dC (.int 5)) (aCons (dC (.int 7)) (aCons (dC (.int 11)) (aCons (dC (.int 13)) (aCons (dC (.int 31)) (aCons (dC (.int 61)) (aCons (dC (.int 113)) (aCons (dC (.int 127)) aNil))))))))))) cNil))) (tName 5))
  (sSeq (sIf (dNotT (dTst (dCallF d__law_is_told [0, 1, 2] (cCons (gName 1) (cCons (gName 5) (cCons (gName 4) cNil)))))) (sRet (dC (.bl false))) sNext)
  (sFor (iAny (dBin fAdd (vT (dLst (aCons (dVar 4) (aCons (dVar 4) aNil)))) (vT (dSl fSl (vT (dCallF d__law_shuffled [0, 1] (cLate 1 (cCons (gVal (dCallF d__law_faults [0, 1] (cCons (gName 1) (cCons (gName 4) cNil)))) cNil)))) oNone (oSome (vT (dC (.int 40)))))))) (tName 6) l1_law))))))
def b_law : En → Out :=
  (sSeq (sAsg (dCallF d__law_start [0] (cCons (gName 0) cNil)) (tName 1))
  (sSeq (sFor (iOps (vCons (vT (dC (.int 2))) vNil) gR1) (tName 2) l2_law)
  (sRet (dC (.bl true)))))
def d_law : Den := denFn [true] 7 b_law
theorem R_law {x0 : O} {o : O} {e : En} {ps : List (Option O)} (h : b_law [.p x0, .no, .no, .no, .no, .no, .no] = .rt o e) (hp : outE 1 e = ps := by rfl) : d_law [x0] = .ok o ps := by
  show denFn [true] 7 b_law [x0] = _
  unfold denFn
  rw [show initE [true] [x0] 7 = [.p x0, .no, .no, .no, .no, .no, .no] from rfl, h, ← hp]; rfl
theorem ok_law : FnOk P w K mg base (L2.CX P w) 26 Fx.a_law Fx.fd_law ["script"] (spD ⟨K, Fx.cl.f, none⟩ 1 d_law) := by
  refine fn_ok (cl := Fx.cl) (k := 25) rfl Fx.F_law sc_law rfl (by decide) fun cdv A outer s H E hr => ?_
  exact (show HSs _ _ _ _ b_law from (hss_cons (hs_asg (ss := [1]) (he_fn (ok__law_start Fx) (hr.mono (by first | decide | omega)) (takes_of rfl rfl rfl rfl) (by rfl) Fx.g__law_start Fx.F__law_start.kp (kb__law_start_1_ Fx) (hc_cons (ga_name (pv 0)) hc_nil)) (hg_name (pg_name (i := 1) sc_law.nd rfl (by first | exact .inl rfl | exact .inr rfl))))
      (hss_cons (hs_for (ss := [2]) (passes_of rfl) rfl (hi_range1 (by rfl) Fx.z_range (hvs_cons (hv_of he_int) hvs_nil)) (hg_name (pg_name (i := 2) sc_law.nd rfl (by first | exact .inl rfl | exact .inr rfl))) (hss_cons (hs_asg (ss := [3]) (he_fn (ok__law_pick Fx) (hr.mono (by first | decide | omega)) (takes_of rfl rfl rfl rfl) (by rfl) Fx.g__law_pick Fx.F__law_pick.kp (kb__law_pick_2_ Fx) (hc_cons (ga_name (pv 1)) (hc_cons (ga_val (he_lst (ha_cons (he_fz (he_lst (ha_cons he_str (ha_cons he_str (ha_cons he_str ha_nil))))) (ha_cons (he_fz (he_lst (ha_cons he_str (ha_cons he_str (ha_cons he_str ha_nil))))) (ha_cons (he_fz (he_lst (ha_cons he_str (ha_cons he_str ha_nil)))) (ha_cons (he_fz (he_lst (ha_cons he_str (ha_cons he_str ha_nil)))) ha_nil)))))) hc_nil))) (hg_name (pg_name (i := 3) sc_law.nd rfl (by first | exact .inl rfl | exact .inr rfl))))
      (hss_cons (hs_asg (ss := [4]) (he_fn (ok__law_sheet Fx) (hr.mono (by first | decide | omega)) (takes_of rfl rfl rfl rfl) (by rfl) Fx.g__law_sheet Fx.F__law_sheet.kp (kb__law_sheet_4_ Fx) (hc_late (pv 1) (hc_cons (ga_val (he_fn (ok__law_take Fx) (hr.mono (by first | decide | omega)) (takes_of rfl rfl rfl rfl) (by rfl) Fx.g__law_take Fx.F__law_take.kp (kb__law_take_2_ Fx) (hc_cons (ga_name (pv 1)) (hc_cons (ga_val he_int) hc_nil)))) (hc_cons (ga_val (he_fn (ok__law_take Fx) (hr.mono (by first | decide | omega)) (takes_of rfl rfl rfl rfl) (by rfl) Fx.g__law_take Fx.F__law_take.kp (kb__law_take_2_ Fx) (hc_cons (ga_name (pv 1)) (hc_cons (ga_val he_int) hc_nil)))) (hc_cons (ga_name (pv 3)) hc_nil))))) (hg_name (pg_name (i := 4) sc_law.nd rfl (by first | exact .inl rfl | exact .inr rfl))))
      (hss_cons (hs_if (ht_cmp (f := fEq) (OpR.or op_eq (op_eqD hr.units)) bEq (hv_of (he_fn (ok__law_take Fx) (hr.mono (by first | decide | omega)) (takes_of rfl rfl rfl rfl) (by rfl) Fx.g__law_take Fx.F__law_take.kp (kb__law_take_2_ Fx) (hc_cons (ga_name (pv 1)) (hc_cons (ga_val he_int) hc_nil)))) (hv_of he_int) (nomark _)) (hss_one (hs_asg (ss := [4]) (he_fn (ok__law_sheet Fx) (hr.mono (by first | decide | omega)) (takes_of rfl rfl rfl rfl) (by rfl) Fx.g__law_sheet Fx.F__law_sheet.kp (kb__law_sheet_4_ Fx) (hc_cons (ga_name (pv 1)) (hc_cons (ga_val he_int) (hc_cons (ga_val he_int) (hc_cons (ga_name (pv 3)) hc_nil))))) (hg_name (pg_name (i := 4) sc_law.nd rfl (by first | exact .inl rfl | exact .inr rfl))))) hss_nil)
      (hss_cons (hs_asg (ss := [5]) (he_fn (ok__law_pick Fx) (hr.mono (by first | decide | omega)) (takes_of rfl rfl rfl rfl) (by rfl) Fx.g__law_pick Fx.F__law_pick.kp (kb__law_pick_2_ Fx) (hc_cons (ga_name (pv 1)) (hc_cons (ga_val (he_lst (ha_cons he_int (ha_cons he_int (ha_cons he_int (ha_cons he_int (ha_cons he_int (ha_cons he_int (ha_cons he_int (ha_cons he_int (ha_cons he_int ha_nil))))))))))) hc_nil))) (hg_name (pg_name (i := 5) sc_law.nd rfl (by first | exact .inl rfl | exact .inr rfl))))
      (hss_cons (hs_if (ht_not (ht_val (he_fn (ok__law_is_told Fx) (hr.mono (by first | decide | omega)) (takes_of rfl rfl rfl rfl) (by rfl) Fx.g__law_is_told Fx.F__law_is_told.kp (kb__law_is_told_3_ Fx) (hc_cons (ga_name (pv 1)) (hc_cons (ga_name (pv 5)) (hc_cons (ga_name (pv 4)) hc_nil)))))) (hss_one (hs_ret he_bl)) hss_nil)
      (hss_one (hs_for (ss := [6]) (passes_of rfl) rfl (hi_any (he_add (hv_of (he_lst (ha_cons (he_var (pv 4)) (ha_cons (he_var (pv 4)) ha_nil)))) (hv_of (he_sl (hv_of (he_fn (ok__law_shuffled Fx) (hr.mono (by first | decide | omega)) (takes_of rfl rfl rfl rfl) (by rfl) Fx.g__law_shuffled Fx.F__law_shuffled.kp (kb__law_shuffled_2_ Fx) (hc_late (pv 1) (hc_cons (ga_val (he_fn (ok__law_faults Fx) (hr.mono (by first | decide | omega)) (takes_of rfl rfl rfl rfl) (by rfl) Fx.g__law_faults Fx.F__law_faults.kp (kb__law_faults_2_ Fx) (hc_cons (ga_name (pv 1)) (hc_cons (ga_name (pv 4)) hc_nil)))) hc_nil)))) ho_none (ho_some (hv_of he_int)))))) (hg_name (pg_name (i := 6) sc_law.nd rfl (by first | exact .inl rfl | exact .inr rfl))) (hss_one (hs_if (ht_cmp (f := fNe) (OpR.or op_ne (op_neD hr.units)) bNe (hv_of (he_fn (ok__law_checked Fx) (hr.mono (by first | decide | omega)) (takes_of rfl rfl rfl rfl) (by rfl) Fx.g__law_checked Fx.F__law_checked.kp (kb__law_checked_2_ Fx) (hc_cons (ga_name (pv 6)) (hc_cons (ga_val (he_cmp (f := fEq) (OpR.or op_eq (op_eqD hr.units)) bEq (hv_of (he_fn (ok__law_take Fx) (hr.mono (by first | decide | omega)) (takes_of rfl rfl rfl rfl) (by rfl) Fx.g__law_take Fx.F__law_take.kp (kb__law_take_2_ Fx) (hc_cons (ga_name (pv 1)) (hc_cons (ga_val he_int) hc_nil)))) (hv_of he_int) (nomark _))) hc_nil)))) (hv_of (he_if (ht_val (he_fn (ok__law_is_sheet Fx) (hr.mono (by first | decide | omega)) (takes_of rfl rfl rfl rfl) (by rfl) Fx.g__law_is_sheet Fx.F__law_is_sheet.kp (kb__law_is_sheet_1_ Fx) (hc_cons (ga_name (pv 6)) hc_nil))) he_str he_str)) (nomark _)) (hss_one (hs_ret he_bl)) hss_nil))))))))))
      (hss_one (hs_ret he_bl)))))
end
end K01
namespace K01
open PySem L2 MX
theorem all_mk {l : PySem.W.OpenLaw} {w : World} {K : PySem.W.Frag} {h : Heap} {mg : Str → Option Value} {fa : Addr} (X : K.In h) (G : h.Ns mainGlobals mg) (hfa : mg "law" = some (.ref fa))
    {od0 an0 : Option Addr} {sl0 : Array (Option Value)} {oc0 kV0 dc0 pm0 cd0 ct0 : Value} {f0 : Addr}
    {od1 an1 : Option Addr} {sl1 : Array (Option Value)} {oc1 kV1 dc1 pm1 cd1 ct1 : Value} {f1 : Addr}
    {od2 an2 : Option Addr} {sl2 : Array (Option Value)} {oc2 kV2 dc2 pm2 cd2 ct2 : Value} {f2 : Addr}
    {od3 an3 : Option Addr} {sl3 : Array (Option Value)} {oc3 kV3 dc3 pm3 cd3 ct3 : Value} {f3 : Addr}
    {od4 an4 : Option Addr} {sl4 : Array (Option Value)} {oc4 kV4 dc4 pm4 cd4 ct4 : Value} {f4 : Addr}
    {od5 an5 : Option Addr} {sl5 : Array (Option Value)} {oc5 kV5 dc5 pm5 cd5 ct5 : Value} {f5 : Addr}
    {od6 an6 : Option Addr} {sl6 : Array (Option Value)} {oc6 kV6 dc6 pm6 cd6 ct6 : Value} {f6 : Addr}
    {od7 an7 : Option Addr} {sl7 : Array (Option Value)} {oc7 kV7 dc7 pm7 cd7 ct7 : Value} {f7 : Addr}
    {od8 an8 : Option Addr} {sl8 : Array (Option Value)} {oc8 kV8 dc8 pm8 cd8 ct8 : Value} {f8 : Addr}
    {od9 an9 : Option Addr} {sl9 : Array (Option Value)} {oc9 kV9 dc9 pm9 cd9 ct9 : Value} {f9 : Addr}
    {od10 an10 : Option Addr} {sl10 : Array (Option Value)} {oc10 kV10 dc10 pm10 cd10 ct10 : Value} {f10 : Addr}
    {od11 an11 : Option Addr} {sl11 : Array (Option Value)} {oc11 kV11 dc11 pm11 cd11 ct11 : Value} {f11 : Addr}
    {od12 an12 : Option Addr} {sl12 : Array (Option Value)} {oc12 kV12 dc12 pm12 cd12 ct12 : Value} {f12 : Addr}
    {od13 an13 : Option Addr} {sl13 : Array (Option Value)} {oc13 kV13 dc13 pm13 cd13 ct13 : Value} {f13 : Addr}
    {od14 an14 : Option Addr} {sl14 : Array (Option Value)} {oc14 kV14 dc14 pm14 cd14 ct14 : Value} {f14 : Addr}
    {od15 an15 : Option Addr} {sl15 : Array (Option Value)} {oc15 kV15 dc15 pm15 cd15 ct15 : Value} {f15 : Addr}
    {od16 an16 : Option Addr} {sl16 : Array (Option Value)} {oc16 kV16 dc16 pm16 cd16 ct16 : Value} {f16 : Addr}
    {od17 an17 : Option Addr} {sl17 : Array (Option Value)} {oc17 kV17 dc17 pm17 cd17 ct17 : Value} {f17 : Addr}
    {od18 an18 : Option Addr} {sl18 : Array (Option Value)} {oc18 kV18 dc18 pm18 cd18 ct18 : Value} {f18 : Addr}
    {od19 an19 : Option Addr} {sl19 : Array (Option Value)} {oc19 kV19 dc19 pm19 cd19 ct19 : Value} {f19 : Addr}
    {od20 an20 : Option Addr} {sl20 : Array (Option Value)} {oc20 kV20 dc20 pm20 cd20 ct20 : Value} {f20 : Addr}
    {od21 an21 : Option Addr} {sl21 : Array (Option Value)} {oc21 kV21 dc21 pm21 cd21 ct21 : Value} {f21 : Addr}
    {od22 an22 : Option Addr} {sl22 : Array (Option Value)} {oc22 kV22 dc22 pm22 cd22 ct22 : Value} {f22 : Addr}
    {od23 an23 : Option Addr} {sl23 : Array (Option Value)} {oc23 kV23 dc23 pm23 cd23 ct23 : Value} {f23 : Addr}
    {od24 an24 : Option Addr} {sl24 : Array (Option Value)} {oc24 kV24 dc24 pm24 cd24 ct24 : Value} {f24 : Addr}
    {od25 an25 : Option Addr} {sl25 : Array (Option Value)} {oc25 kV25 dc25 pm25 cd25 ct25 : Value} {f25 : Addr}
    {od26 an26 : Option Addr} {sl26 : Array (Option Value)} {oc26 kV26 dc26 pm26 cd26 ct26 : Value} {f26 : Addr}
    {od27 an27 : Option Addr} {sl27 : Array (Option Value)} {oc27 kV27 dc27 pm27 cd27 ct27 : Value} {f27 : Addr}
    {od28 an28 : Option Addr} {sl28 : Array (Option Value)} {oc28 kV28 dc28 pm28 cd28 ct28 : Value} {f28 : Addr}
    {od29 an29 : Option Addr} {sl29 : Array (Option Value)} {oc29 kV29 dc29 pm29 cd29 ct29 : Value} {f29 : Addr}
    {od30 an30 : Option Addr} {sl30 : Array (Option Value)} {oc30 kV30 dc30 pm30 cd30 ct30 : Value} {f30 : Addr}
    {tk_MOST_INPUTS : Tok}
    {tk_MOST_LINES : Tok}
    {tk_MOST_NUMBER : Tok}
    {tk_MOST_OUTS : Tok}
    {C_BadSheet : Addr}
    (a0 : PySem.W.nsIn K mainGlobals "_law_mixed" = some (some (.ref f0)))
    (l0 : K.lookup f0 = some ⟨oc0, od0, .func (PySem.W.fnOf "_law_mixed" "_law_mixed" (defArgs s__law_mixed) (defBody s__law_mixed) (defScope s__law_mixed) .none kV0 dc0 pm0 an0 cd0 ct0), sl0⟩)
    (c0 : PySem.W.codeIn K cd0 "_law_mixed" = true)
    (k0 : PySem.W.keepIn K (.ref f0) = true)
    (a1 : PySem.W.nsIn K mainGlobals "_law_start" = some (some (.ref f1)))
    (l1 : K.lookup f1 = some ⟨oc1, od1, .func (PySem.W.fnOf "_law_start" "_law_start" (defArgs s__law_start) (defBody s__law_start) (defScope s__law_start) .none kV1 dc1 pm1 an1 cd1 ct1), sl1⟩)
    (c1 : PySem.W.codeIn K cd1 "_law_start" = true)
    (k1 : PySem.W.keepIn K (.ref f1) = true)
    (a2 : PySem.W.nsIn K mainGlobals "_law_take" = some (some (.ref f2)))
    (l2 : K.lookup f2 = some ⟨oc2, od2, .func (PySem.W.fnOf "_law_take" "_law_take" (defArgs s__law_take) (defBody s__law_take) (defScope s__law_take) .none kV2 dc2 pm2 an2 cd2 ct2), sl2⟩)
    (c2 : PySem.W.codeIn K cd2 "_law_take" = true)
    (k2 : PySem.W.keepIn K (.ref f2) = true)
    (a3 : PySem.W.nsIn K mainGlobals "_law_pick" = some (some (.ref f3)))
    (l3 : K.lookup f3 = some ⟨oc3, od3, .func (PySem.W.fnOf "_law_pick" "_law_pick" (defArgs s__law_pick) (defBody s__law_pick) (defScope s__law_pick) .none kV3 dc3 pm3 an3 cd3 ct3), sl3⟩)
    (c3 : PySem.W.codeIn K cd3 "_law_pick" = true)
    (k3 : PySem.W.keepIn K (.ref f3) = true)
    (a4 : PySem.W.nsIn K mainGlobals "_law_shuffled" = some (some (.ref f4)))
    (l4 : K.lookup f4 = some ⟨oc4, od4, .func (PySem.W.fnOf "_law_shuffled" "_law_shuffled" (defArgs s__law_shuffled) (defBody s__law_shuffled) (defScope s__law_shuffled) .none kV4 dc4 pm4 an4 cd4 ct4), sl4⟩)
    (c4 : PySem.W.codeIn K cd4 "_law_shuffled" = true)
    (k4 : PySem.W.keepIn K (.ref f4) = true)
    (a5 : PySem.W.nsIn K mainGlobals "_law_number" = some (some (.ref f5)))
    (l5 : K.lookup f5 = some ⟨oc5, od5, .func (PySem.W.fnOf "_law_number" "_law_number" (defArgs s__law_number) (defBody s__law_number) (defScope s__law_number) .none kV5 dc5 pm5 an5 cd5 ct5), sl5⟩)
    (c5 : PySem.W.codeIn K cd5 "_law_number" = true)
    (k5 : PySem.W.keepIn K (.ref f5) = true)
    (a6 : PySem.W.nsIn K mainGlobals "_law_sheet" = some (some (.ref f6)))
    (l6 : K.lookup f6 = some ⟨oc6, od6, .func (PySem.W.fnOf "_law_sheet" "_law_sheet" (defArgs s__law_sheet) (defBody s__law_sheet) (defScope s__law_sheet) .none kV6 dc6 pm6 an6 cd6 ct6), sl6⟩)
    (c6 : PySem.W.codeIn K cd6 "_law_sheet" = true)
    (k6 : PySem.W.keepIn K (.ref f6) = true)
    (a7 : PySem.W.nsIn K mainGlobals "_law_is_int" = some (some (.ref f7)))
    (l7 : K.lookup f7 = some ⟨oc7, od7, .func (PySem.W.fnOf "_law_is_int" "_law_is_int" (defArgs s__law_is_int) (defBody s__law_is_int) (defScope s__law_is_int) .none kV7 dc7 pm7 an7 cd7 ct7), sl7⟩)
    (c7 : PySem.W.codeIn K cd7 "_law_is_int" = true)
    (k7 : PySem.W.keepIn K (.ref f7) = true)
    (a8 : PySem.W.nsIn K mainGlobals "_law_is_line" = some (some (.ref f8)))
    (l8 : K.lookup f8 = some ⟨oc8, od8, .func (PySem.W.fnOf "_law_is_line" "_law_is_line" (defArgs s__law_is_line) (defBody s__law_is_line) (defScope s__law_is_line) .none kV8 dc8 pm8 an8 cd8 ct8), sl8⟩)
    (c8 : PySem.W.codeIn K cd8 "_law_is_line" = true)
    (k8 : PySem.W.keepIn K (.ref f8) = true)
    (a9 : PySem.W.nsIn K mainGlobals "_law_is_sheet" = some (some (.ref f9)))
    (l9 : K.lookup f9 = some ⟨oc9, od9, .func (PySem.W.fnOf "_law_is_sheet" "_law_is_sheet" (defArgs s__law_is_sheet) (defBody s__law_is_sheet) (defScope s__law_is_sheet) .none kV9 dc9 pm9 an9 cd9 ct9), sl9⟩)
    (c9 : PySem.W.codeIn K cd9 "_law_is_sheet" = true)
    (k9 : PySem.W.keepIn K (.ref f9) = true)
    (a10 : PySem.W.nsIn K mainGlobals "_law_faults" = some (some (.ref f10)))
    (l10 : K.lookup f10 = some ⟨oc10, od10, .func (PySem.W.fnOf "_law_faults" "_law_faults" (defArgs s__law_faults) (defBody s__law_faults) (defScope s__law_faults) .none kV10 dc10 pm10 an10 cd10 ct10), sl10⟩)
    (c10 : PySem.W.codeIn K cd10 "_law_faults" = true)
    (k10 : PySem.W.keepIn K (.ref f10) = true)
    (a11 : PySem.W.nsIn K mainGlobals "is_number" = some (some (.ref f11)))
    (l11 : K.lookup f11 = some ⟨oc11, od11, .func (PySem.W.fnOf "is_number" "is_number" (defArgs s_is_number) (defBody s_is_number) (defScope s_is_number) .none kV11 dc11 pm11 an11 cd11 ct11), sl11⟩)
    (c11 : PySem.W.codeIn K cd11 "is_number" = true)
    (k11 : PySem.W.keepIn K (.ref f11) = true)
    (a12 : PySem.W.nsIn K mainGlobals "is_wire" = some (some (.ref f12)))
    (l12 : K.lookup f12 = some ⟨oc12, od12, .func (PySem.W.fnOf "is_wire" "is_wire" (defArgs s_is_wire) (defBody s_is_wire) (defScope s_is_wire) .none kV12 dc12 pm12 an12 cd12 ct12), sl12⟩)
    (c12 : PySem.W.codeIn K cd12 "is_wire" = true)
    (k12 : PySem.W.keepIn K (.ref f12) = true)
    (a13 : PySem.W.nsIn K mainGlobals "is_line" = some (some (.ref f13)))
    (l13 : K.lookup f13 = some ⟨oc13, od13, .func (PySem.W.fnOf "is_line" "is_line" (defArgs s_is_line) (defBody s_is_line) (defScope s_is_line) .none kV13 dc13 pm13 an13 cd13 ct13), sl13⟩)
    (c13 : PySem.W.codeIn K cd13 "is_line" = true)
    (k13 : PySem.W.keepIn K (.ref f13) = true)
    (a14 : PySem.W.nsIn K mainGlobals "is_sheet" = some (some (.ref f14)))
    (l14 : K.lookup f14 = some ⟨oc14, od14, .func (PySem.W.fnOf "is_sheet" "is_sheet" (defArgs s_is_sheet) (defBody s_is_sheet) (defScope s_is_sheet) .none kV14 dc14 pm14 an14 cd14 ct14), sl14⟩)
    (c14 : PySem.W.codeIn K cd14 "is_sheet" = true)
    (k14 : PySem.W.keepIn K (.ref f14) = true)
    (a15 : PySem.W.nsIn K mainGlobals "check_sheet" = some (some (.ref f15)))
    (l15 : K.lookup f15 = some ⟨oc15, od15, .func (PySem.W.fnOf "check_sheet" "check_sheet" (defArgs s_check_sheet) (defBody s_check_sheet) (defScope s_check_sheet) .none kV15 dc15 pm15 an15 cd15 ct15), sl15⟩)
    (c15 : PySem.W.codeIn K cd15 "check_sheet" = true)
    (k15 : PySem.W.keepIn K (.ref f15) = true)
    (a16 : PySem.W.nsIn K mainGlobals "_law_checked" = some (some (.ref f16)))
    (l16 : K.lookup f16 = some ⟨oc16, od16, .func (PySem.W.fnOf "_law_checked" "_law_checked" (defArgs s__law_checked) (defBody s__law_checked) (defScope s__law_checked) .none kV16 dc16 pm16 an16 cd16 ct16), sl16⟩)
    (c16 : PySem.W.codeIn K cd16 "_law_checked" = true)
    (k16 : PySem.W.keepIn K (.ref f16) = true)
    (a17 : PySem.W.nsIn K mainGlobals "product_lines" = some (some (.ref f17)))
    (l17 : K.lookup f17 = some ⟨oc17, od17, .func (PySem.W.fnOf "product_lines" "product_lines" (defArgs s_product_lines) (defBody s_product_lines) (defScope s_product_lines) .none kV17 dc17 pm17 an17 cd17 ct17), sl17⟩)
    (c17 : PySem.W.codeIn K cd17 "product_lines" = true)
    (k17 : PySem.W.keepIn K (.ref f17) = true)
    (a18 : PySem.W.nsIn K mainGlobals "base_wires" = some (some (.ref f18)))
    (l18 : K.lookup f18 = some ⟨oc18, od18, .func (PySem.W.fnOf "base_wires" "base_wires" (defArgs s_base_wires) (defBody s_base_wires) (defScope s_base_wires) .none kV18 dc18 pm18 an18 cd18 ct18), sl18⟩)
    (c18 : PySem.W.codeIn K cd18 "base_wires" = true)
    (k18 : PySem.W.keepIn K (.ref f18) = true)
    (a19 : PySem.W.nsIn K mainGlobals "line_value" = some (some (.ref f19)))
    (l19 : K.lookup f19 = some ⟨oc19, od19, .func (PySem.W.fnOf "line_value" "line_value" (defArgs s_line_value) (defBody s_line_value) (defScope s_line_value) .none kV19 dc19 pm19 an19 cd19 ct19), sl19⟩)
    (c19 : PySem.W.codeIn K cd19 "line_value" = true)
    (k19 : PySem.W.keepIn K (.ref f19) = true)
    (a20 : PySem.W.nsIn K mainGlobals "wire_values" = some (some (.ref f20)))
    (l20 : K.lookup f20 = some ⟨oc20, od20, .func (PySem.W.fnOf "wire_values" "wire_values" (defArgs s_wire_values) (defBody s_wire_values) (defScope s_wire_values) .none kV20 dc20 pm20 an20 cd20 ct20), sl20⟩)
    (c20 : PySem.W.codeIn K cd20 "wire_values" = true)
    (k20 : PySem.W.keepIn K (.ref f20) = true)
    (a21 : PySem.W.nsIn K mainGlobals "results_of" = some (some (.ref f21)))
    (l21 : K.lookup f21 = some ⟨oc21, od21, .func (PySem.W.fnOf "results_of" "results_of" (defArgs s_results_of) (defBody s_results_of) (defScope s_results_of) .none kV21 dc21 pm21 an21 cd21 ct21), sl21⟩)
    (c21 : PySem.W.codeIn K cd21 "results_of" = true)
    (k21 : PySem.W.keepIn K (.ref f21) = true)
    (a22 : PySem.W.nsIn K mainGlobals "unit_row" = some (some (.ref f22)))
    (l22 : K.lookup f22 = some ⟨oc22, od22, .func (PySem.W.fnOf "unit_row" "unit_row" (defArgs s_unit_row) (defBody s_unit_row) (defScope s_unit_row) .none kV22 dc22 pm22 an22 cd22 ct22), sl22⟩)
    (c22 : PySem.W.codeIn K cd22 "unit_row" = true)
    (k22 : PySem.W.keepIn K (.ref f22) = true)
    (a23 : PySem.W.nsIn K mainGlobals "line_form" = some (some (.ref f23)))
    (l23 : K.lookup f23 = some ⟨oc23, od23, .func (PySem.W.fnOf "line_form" "line_form" (defArgs s_line_form) (defBody s_line_form) (defScope s_line_form) .none kV23 dc23 pm23 an23 cd23 ct23), sl23⟩)
    (c23 : PySem.W.codeIn K cd23 "line_form" = true)
    (k23 : PySem.W.keepIn K (.ref f23) = true)
    (a24 : PySem.W.nsIn K mainGlobals "wire_forms" = some (some (.ref f24)))
    (l24 : K.lookup f24 = some ⟨oc24, od24, .func (PySem.W.fnOf "wire_forms" "wire_forms" (defArgs s_wire_forms) (defBody s_wire_forms) (defScope s_wire_forms) .none kV24 dc24 pm24 an24 cd24 ct24), sl24⟩)
    (c24 : PySem.W.codeIn K cd24 "wire_forms" = true)
    (k24 : PySem.W.keepIn K (.ref f24) = true)
    (a25 : PySem.W.nsIn K mainGlobals "_law_same" = some (some (.ref f25)))
    (l25 : K.lookup f25 = some ⟨oc25, od25, .func (PySem.W.fnOf "_law_same" "_law_same" (defArgs s__law_same) (defBody s__law_same) (defScope s__law_same) .none kV25 dc25 pm25 an25 cd25 ct25), sl25⟩)
    (c25 : PySem.W.codeIn K cd25 "_law_same" = true)
    (k25 : PySem.W.keepIn K (.ref f25) = true)
    (a26 : PySem.W.nsIn K mainGlobals "_law_walk" = some (some (.ref f26)))
    (l26 : K.lookup f26 = some ⟨oc26, od26, .func (PySem.W.fnOf "_law_walk" "_law_walk" (defArgs s__law_walk) (defBody s__law_walk) (defScope s__law_walk) .none kV26 dc26 pm26 an26 cd26 ct26), sl26⟩)
    (c26 : PySem.W.codeIn K cd26 "_law_walk" = true)
    (k26 : PySem.W.keepIn K (.ref f26) = true)
    (a27 : PySem.W.nsIn K mainGlobals "_law_base" = some (some (.ref f27)))
    (l27 : K.lookup f27 = some ⟨oc27, od27, .func (PySem.W.fnOf "_law_base" "_law_base" (defArgs s__law_base) (defBody s__law_base) (defScope s__law_base) .none kV27 dc27 pm27 an27 cd27 ct27), sl27⟩)
    (c27 : PySem.W.codeIn K cd27 "_law_base" = true)
    (k27 : PySem.W.keepIn K (.ref f27) = true)
    (a28 : PySem.W.nsIn K mainGlobals "_law_forms" = some (some (.ref f28)))
    (l28 : K.lookup f28 = some ⟨oc28, od28, .func (PySem.W.fnOf "_law_forms" "_law_forms" (defArgs s__law_forms) (defBody s__law_forms) (defScope s__law_forms) .none kV28 dc28 pm28 an28 cd28 ct28), sl28⟩)
    (c28 : PySem.W.codeIn K cd28 "_law_forms" = true)
    (k28 : PySem.W.keepIn K (.ref f28) = true)
    (a29 : PySem.W.nsIn K mainGlobals "_law_is_told" = some (some (.ref f29)))
    (l29 : K.lookup f29 = some ⟨oc29, od29, .func (PySem.W.fnOf "_law_is_told" "_law_is_told" (defArgs s__law_is_told) (defBody s__law_is_told) (defScope s__law_is_told) .none kV29 dc29 pm29 an29 cd29 ct29), sl29⟩)
    (c29 : PySem.W.codeIn K cd29 "_law_is_told" = true)
    (k29 : PySem.W.keepIn K (.ref f29) = true)
    (a30 : PySem.W.nsIn K mainGlobals "law" = some (some (.ref f30)))
    (l30 : K.lookup f30 = some ⟨oc30, od30, .func (PySem.W.fnOf "law" "law" (defArgs s_law) (defBody s_law) (defScope s_law) .none kV30 dc30 pm30 an30 cd30 ct30), sl30⟩)
    (c30 : PySem.W.codeIn K cd30 "law" = true)
    (k30 : PySem.W.keepIn K (.ref f30) = true)
    (gi_MOST_INPUTS : PySem.W.nsIn K mainGlobals "MOST_INPUTS" = some (some (.int 16 tk_MOST_INPUTS)))
    (gi_MOST_LINES : PySem.W.nsIn K mainGlobals "MOST_LINES" = some (some (.int 60 tk_MOST_LINES)))
    (gi_MOST_NUMBER : PySem.W.nsIn K mainGlobals "MOST_NUMBER" = some (some (.int 1000000000000000000000000000000000000000000000000000000000000 tk_MOST_NUMBER)))
    (gi_MOST_OUTS : PySem.W.nsIn K mainGlobals "MOST_OUTS" = some (some (.int 8 tk_MOST_OUTS)))
    (gc_BadSheet : PySem.W.nsIn K mainGlobals "BadSheet" = some (some (.ref C_BadSheet)))
    (k_BadSheet : PySem.W.keepIn K (.ref C_BadSheet) = true)
    (q_BadSheet : PySem.W.excIn K C_BadSheet [.type "ValueError", .type "Exception", .type "BaseException", .type "object"] "ValueError.__new__" = true)
    (b_BadSheet : PySem.W.subIn K (.ref C_BadSheet) (.type "BaseException") = some true)
    (t_BadSheet : PySem.W.typeIn K (.ref C_BadSheet) = some (.type "type"))
    (ehg_BadSheet : PySem.W.findIn K (.ref C_BadSheet) "__getattribute__" = some (some (.builtin "BaseException.__getattribute__")))
    (ehk_BadSheet : PySem.W.findIn K (.ref C_BadSheet) "__getattr__" = some none)
    (ehs_BadSheet : PySem.W.subIn K (.ref C_BadSheet) (.type "BaseException") = some true)
    (ehd_BadSheet : PySem.W.hasDictIn K C_BadSheet = true)
    (eha_BadSheet : PySem.W.findIn K (.ref C_BadSheet) "__class__" = some (some (.builtin "object.__class__")))
    (ehm_BadSheet : PySem.W.mroIn K C_BadSheet (.type "object") = some true)
    (ehn : PySem.W.specialIn K (.builtin "object.__class__") "__get__" = some (some (.builtin "getset_descriptor.__get__")))
    (eht : PySem.W.takesIn K (.builtin "object.__class__") = some true)
    (x_BadSheet_BadSheet : PySem.W.exmOne K (.ref C_BadSheet) (.ref C_BadSheet) = some true)
    (z_abs : PySem.W.nsIn K mainGlobals "abs" = some none)
    (z_all : PySem.W.nsIn K mainGlobals "all" = some none)
    (z_bool : PySem.W.nsIn K mainGlobals "bool" = some none)
    (z_enumerate : PySem.W.nsIn K mainGlobals "enumerate" = some none)
    (z_int : PySem.W.nsIn K mainGlobals "int" = some none)
    (z_isinstance : PySem.W.nsIn K mainGlobals "isinstance" = some none)
    (z_len : PySem.W.nsIn K mainGlobals "len" = some none)
    (z_list : PySem.W.nsIn K mainGlobals "list" = some none)
    (z_range : PySem.W.nsIn K mainGlobals "range" = some none)
    (z_str : PySem.W.nsIn K mainGlobals "str" = some none)
    (z_sum : PySem.W.nsIn K mainGlobals "sum" = some none)
    (z_tuple : PySem.W.nsIn K mainGlobals "tuple" = some none)
    (z_zip : PySem.W.nsIn K mainGlobals "zip" = some none)
    (nl : noList K = true)
    (hv : ∀ ns : List Int, ns.length ≤ 63 → ∃ ps, d_law [.d (.lst (ns.map D.int))] = .ok (.d (.bl true)) ps) :
    ∃ fd : FuncData, (∀ (s : Shared) (v : Value), BindsTo s fd ⟨[v], []⟩ [("script", v)]) ∧ ∀ base : Heap, K.In base → base.Ns mainGlobals mg → FnOk l.prog w K mg base (L2.CX l.prog w) 26 fa fd ["script"] (spLaw K) := by
  have e := hfa.symm.trans (PySem.W.mg_of X G a30)
  cases e
  let Fx : Facts K mg := { a__law_mixed := f0, fd__law_mixed := _, F__law_mixed := fun_mk (st := s__law_mixed) l0 c0 k0, g__law_mixed := PySem.W.mg_of X G a0, a__law_start := f1, fd__law_start := _, F__law_start := fun_mk (st := s__law_start) l1 c1 k1, g__law_start := PySem.W.mg_of X G a1, a__law_take := f2, fd__law_take := _, F__law_take := fun_mk (st := s__law_take) l2 c2 k2, g__law_take := PySem.W.mg_of X G a2, a__law_pick := f3, fd__law_pick := _, F__law_pick := fun_mk (st := s__law_pick) l3 c3 k3, g__law_pick := PySem.W.mg_of X G a3, a__law_shuffled := f4, fd__law_shuffled := _, F__law_shuffled := fun_mk (st := s__law_shuffled) l4 c4 k4, g__law_shuffled := PySem.W.mg_of X G a4, a__law_number := f5, fd__law_number := _, F__law_number := fun_mk (st := s__law_number) l5 c5 k5, g__law_number := PySem.W.mg_of X G a5, a__law_sheet := f6, fd__law_sheet := _, F__law_sheet := fun_mk (st := s__law_sheet) l6 c6 k6, g__law_sheet := PySem.W.mg_of X G a6, a__law_is_int := f7, fd__law_is_int := _, F__law_is_int := fun_mk (st := s__law_is_int) l7 c7 k7, g__law_is_int := PySem.W.mg_of X G a7, a__law_is_line := f8, fd__law_is_line := _, F__law_is_line := fun_mk (st := s__law_is_line) l8 c8 k8, g__law_is_line := PySem.W.mg_of X G a8, a__law_is_sheet := f9, fd__law_is_sheet := _, F__law_is_sheet := fun_mk (st := s__law_is_sheet) l9 c9 k9, g__law_is_sheet := PySem.W.mg_of X G a9, a__law_faults := f10, fd__law_faults := _, F__law_faults := fun_mk (st := s__law_faults) l10 c10 k10, g__law_faults := PySem.W.mg_of X G a10, a_is_number := f11, fd_is_number := _, F_is_number := fun_mk (st := s_is_number) l11 c11 k11, g_is_number := PySem.W.mg_of X G a11, a_is_wire := f12, fd_is_wire := _, F_is_wire := fun_mk (st := s_is_wire) l12 c12 k12, g_is_wire := PySem.W.mg_of X G a12, a_is_line := f13, fd_is_line := _, F_is_line := fun_mk (st := s_is_line) l13 c13 k13, g_is_line := PySem.W.mg_of X G a13, a_is_sheet := f14, fd_is_sheet := _, F_is_sheet := fun_mk (st := s_is_sheet) l14 c14 k14, g_is_sheet := PySem.W.mg_of X G a14, a_check_sheet := f15, fd_check_sheet := _, F_check_sheet := fun_mk (st := s_check_sheet) l15 c15 k15, g_check_sheet := PySem.W.mg_of X G a15, a__law_checked := f16, fd__law_checked := _, F__law_checked := fun_mk (st := s__law_checked) l16 c16 k16, g__law_checked := PySem.W.mg_of X G a16, a_product_lines := f17, fd_product_lines := _, F_product_lines := fun_mk (st := s_product_lines) l17 c17 k17, g_product_lines := PySem.W.mg_of X G a17, a_base_wires := f18, fd_base_wires := _, F_base_wires := fun_mk (st := s_base_wires) l18 c18 k18, g_base_wires := PySem.W.mg_of X G a18, a_line_value := f19, fd_line_value := _, F_line_value := fun_mk (st := s_line_value) l19 c19 k19, g_line_value := PySem.W.mg_of X G a19, a_wire_values := f20, fd_wire_values := _, F_wire_values := fun_mk (st := s_wire_values) l20 c20 k20, g_wire_values := PySem.W.mg_of X G a20, a_results_of := f21, fd_results_of := _, F_results_of := fun_mk (st := s_results_of) l21 c21 k21, g_results_of := PySem.W.mg_of X G a21, a_unit_row := f22, fd_unit_row := _, F_unit_row := fun_mk (st := s_unit_row) l22 c22 k22, g_unit_row := PySem.W.mg_of X G a22, a_line_form := f23, fd_line_form := _, F_line_form := fun_mk (st := s_line_form) l23 c23 k23, g_line_form := PySem.W.mg_of X G a23, a_wire_forms := f24, fd_wire_forms := _, F_wire_forms := fun_mk (st := s_wire_forms) l24 c24 k24, g_wire_forms := PySem.W.mg_of X G a24, a__law_same := f25, fd__law_same := _, F__law_same := fun_mk (st := s__law_same) l25 c25 k25, g__law_same := PySem.W.mg_of X G a25, a__law_walk := f26, fd__law_walk := _, F__law_walk := fun_mk (st := s__law_walk) l26 c26 k26, g__law_walk := PySem.W.mg_of X G a26, a__law_base := f27, fd__law_base := _, F__law_base := fun_mk (st := s__law_base) l27 c27 k27, g__law_base := PySem.W.mg_of X G a27, a__law_forms := f28, fd__law_forms := _, F__law_forms := fun_mk (st := s__law_forms) l28 c28 k28, g__law_forms := PySem.W.mg_of X G a28, a__law_is_told := f29, fd__law_is_told := _, F__law_is_told := fun_mk (st := s__law_is_told) l29 c29 k29, g__law_is_told := PySem.W.mg_of X G a29, a_law := fa, fd_law := _, F_law := fun_mk (st := s_law) l30 c30 k30, g_law := PySem.W.mg_of X G a30, tk_MOST_INPUTS := tk_MOST_INPUTS, gi_MOST_INPUTS := PySem.W.mg_of X G gi_MOST_INPUTS, tk_MOST_LINES := tk_MOST_LINES, gi_MOST_LINES := PySem.W.mg_of X G gi_MOST_LINES, tk_MOST_NUMBER := tk_MOST_NUMBER, gi_MOST_NUMBER := PySem.W.mg_of X G gi_MOST_NUMBER, tk_MOST_OUTS := tk_MOST_OUTS, gi_MOST_OUTS := PySem.W.mg_of X G gi_MOST_OUTS, C_BadSheet := C_BadSheet, gc_BadSheet := PySem.W.mg_of X G gc_BadSheet, k_BadSheet := k_BadSheet, q_BadSheet := q_BadSheet, b_BadSheet := b_BadSheet, t_BadSheet := t_BadSheet, e_BadSheet := ⟨ehg_BadSheet, ehk_BadSheet, ehs_BadSheet, ehd_BadSheet, eha_BadSheet, ehn, eht, ehm_BadSheet⟩, x_BadSheet_BadSheet := x_BadSheet_BadSheet, z_abs := PySem.W.mg_none_of X G z_abs, z_all := PySem.W.mg_none_of X G z_all, z_bool := PySem.W.mg_none_of X G z_bool, z_enumerate := PySem.W.mg_none_of X G z_enumerate, z_int := PySem.W.mg_none_of X G z_int, z_isinstance := PySem.W.mg_none_of X G z_isinstance, z_len := PySem.W.mg_none_of X G z_len, z_list := PySem.W.mg_none_of X G z_list, z_range := PySem.W.mg_none_of X G z_range, z_str := PySem.W.mg_none_of X G z_str, z_sum := PySem.W.mg_none_of X G z_sum, z_tuple := PySem.W.mg_none_of X G z_tuple, z_zip := PySem.W.mg_none_of X G z_zip }
  exact ⟨Fx.fd_law, fun s v => .of_eq rfl, fun base _ _ => (ok_law (P := l.prog) (w := w) (base := base) Fx).imp (top_imp nl hv)⟩
end K01
namespace MX
open PySem L2
section
variable {α β : Type} {e e1 : En} {x : α} {c : String} {ps : List (Str × D)} {i j : Int} {b : Bool}
@[simp] theorem z1 {f : α → En → Rs β} : (Rs.ok x e).bind f = f x e := Eq.trans rfl rfl
@[simp] theorem z2 {f : α → En → Rs β} : (Rs.exc c ps e : Rs α).bind f = .exc c ps e := Eq.trans rfl rfl
@[simp] theorem z3 {f : α → En → Rs β} : (Rs.bad : Rs α).bind f = .bad := Eq.trans rfl rfl
@[simp] theorem z4 {f : α → En → Out} : (Rs.ok x e).out f = f x e := Eq.trans rfl rfl
@[simp] theorem z5 {f : α → En → Out} : (Rs.exc c ps e : Rs α).out f = .exc c ps e := Eq.trans rfl rfl
@[simp] theorem z6 {f : α → En → Out} : (Rs.bad : Rs α).out f = .bad := Eq.trans rfl rfl
@[simp] theorem z7 {f : En → Out} : (Out.nx e).andThen f = f e := Eq.trans rfl rfl
@[simp] theorem z8 {o : O} {f : En → Out} : (Out.rt o e).andThen f = .rt o e := Eq.trans rfl rfl
@[simp] theorem z9 {f : En → Out} : (Out.exc c ps e).andThen f = .exc c ps e := Eq.trans rfl rfl
@[simp] theorem z10 {f : En → Out} : (Out.bk e).andThen f = .bk e := Eq.trans rfl rfl
@[simp] theorem z11 {f : En → Out} : (Out.ct e).andThen f = .ct e := Eq.trans rfl rfl
@[simp] theorem z12 {f : En → Out} : (Out.bad).andThen f = .bad := Eq.trans rfl rfl
@[simp] theorem z13 {x : D} : dC x e = .ok (.d x) e := Eq.trans rfl rfl
@[simp] theorem z14 {d : En → Rs O} : vT d e = (d e).bind fun o e1 => .ok (.t o) e1 := Eq.trans rfl rfl
@[simp] theorem z15 {n : Nat} : vS n e = match slot e n with | some _ => .ok (.s n) e | none => .bad := Eq.trans rfl rfl
@[simp] theorem z16 {o : O} : Ar.get e (.t o) = some o := Eq.trans rfl rfl
@[simp] theorem z17 {n : Nat} : Ar.get e (.s n) = slot e n := Eq.trans rfl rfl
@[simp] theorem z18 {z : O} : fin (some z) e = .ok z e := Eq.trans rfl rfl
@[simp] theorem z19 : fin none e = .bad := Eq.trans rfl rfl
def bin2 (f : O → O → Option O) (a b : Option O) (e : En) : Rs O := match a, b with
  | some a, some b => fin (f a b) e
  | _, _ => .bad
@[simp] theorem z20 {f : O → O → Option O} {a b : O} : bin2 f (some a) (some b) e = fin (f a b) e := Eq.trans rfl rfl
@[simp] theorem z21 {f : O → O → Option O} {da db : En → Rs Ar} : dBin f da db e = (da e).bind fun x e1 => (db e1).bind fun y e2 => bin2 f (x.get e2) (y.get e2) e2 := Eq.trans rfl rfl
def un2 (f : O → Option O) (a : Option O) (e : En) : Rs O := match a with
  | some a => fin (f a) e
  | none => .bad
@[simp] theorem z22b {f : O → Option O} {a : O} : un2 f (some a) e = fin (f a) e := Eq.trans rfl rfl
@[simp] theorem z22 {f : O → Option O} {da : En → Rs Ar} : dUn f da e = (da e).bind fun x e1 => un2 f (x.get e1) e1 := Eq.trans rfl rfl
@[simp] theorem z23 {d : En → Rs O} : dTst d e = (d e).bind fun o e1 => match o with
  | .d (.bl b) => .ok b e1
  | _ => .bad := Eq.trans rfl rfl
@[simp] theorem z24 {a b : En → Rs Bool} : dAndT a b e = (a e).bind fun k e1 => if k = true then b e1 else .ok false e1 := Eq.trans rfl rfl
@[simp] theorem z25 {a b : En → Rs Bool} : dOrT a b e = (a e).bind fun k e1 => if k = true then .ok true e1 else b e1 := Eq.trans rfl rfl
@[simp] theorem z26 {a : En → Rs Bool} : dNotT a e = (a e).bind fun k e1 => .ok (!k) e1 := Eq.trans rfl rfl
@[simp] theorem z27 {a b : En → Rs O} : dAndV a b e = (dTst a e).bind fun k e1 => if k = true then b e1 else .ok (.d (.bl false)) e1 := Eq.trans rfl rfl
@[simp] theorem z28 {a b : En → Rs O} : dOrV a b e = (dTst a e).bind fun k e1 => if k = true then .ok (.d (.bl true)) e1 else b e1 := Eq.trans rfl rfl
@[simp] theorem z29 {a : En → Rs O} : dNotV a e = (dTst a e).bind fun k e1 => .ok (.d (.bl (!k))) e1 := Eq.trans rfl rfl
@[simp] theorem z30 {d : En → Rs Bool} {a b : En → Rs O} : dIf d a b e = (d e).bind fun k e1 => if k = true then a e1 else b e1 := Eq.trans rfl rfl
@[simp] theorem z31 : aNil e = .ok [] e := Eq.trans rfl rfl
@[simp] theorem z32 {d : En → Rs O} {r : En → Rs (List O)} : aCons d r e = (d e).bind fun o e1 => (r e1).bind fun os e2 => .ok (o :: os) e2 := Eq.trans rfl rfl
@[simp] theorem z33 {d : En → Rs (List O)} : dTup d e = (d e).bind fun os e1 => if os.length ≤ sizeLine then .ok (.d (.tup (fzs os))) e1 else .bad := Eq.trans rfl rfl
@[simp] theorem z34 {d : En → Rs (List O)} : dLst d e = (d e).bind fun os e1 => if os.length ≤ sizeLine then .ok (.lst os) e1 else .bad := Eq.trans rfl rfl
@[simp] theorem z36 : gets e [] = some [] := Eq.trans rfl rfl
@[simp] theorem z37 : vNil e = .ok [] e := Eq.trans rfl rfl
@[simp] theorem z38 {d : En → Rs Ar} {r : En → Rs (List Ar)} : vCons d r e = (d e).bind fun x e1 => (r e1).bind fun xs e2 => .ok (x :: xs) e2 := Eq.trans rfl rfl
def call2 (f : List O → Option O) (e : En) : Option (List O) → Rs O
  | some os => fin (f os) e
  | none => .bad
@[simp] theorem z39b {f : List O → Option O} {os : List O} : call2 f e (some os) = fin (f os) e := Eq.trans rfl rfl
@[simp] theorem z39 {f : List O → Option O} {d : En → Rs (List Ar)} : dCall f d e = (d e).bind fun xs e1 => call2 f e1 (gets e1 xs) := Eq.trans rfl rfl
def cons2 : Option O → Option (List O) → Option (List O)
  | some o, some os => some (o :: os)
  | _, _ => none
@[simp] theorem z35b {o : O} {os : List O} : cons2 (some o) (some os) = some (o :: os) := Eq.trans rfl rfl
@[simp] theorem z35 {a : Ar} {as : List Ar} : gets e (a :: as) = cons2 (a.get e) (gets e as) := by
  show (match a.get e, gets e as with
    | some o, some os => some (o :: os)
    | _, _ => none) = _
  unfold cons2
  rfl
@[simp] theorem z40 : sNext e = .nx e := Eq.trans rfl rfl
@[simp] theorem z41 {a b : En → Out} : sSeq a b e = (a e).andThen b := Eq.trans rfl rfl
@[simp] theorem z42 {d : En → Rs O} : sExpr d e = (d e).out fun _ e1 => .nx e1 := Eq.trans rfl rfl
@[simp] theorem z43 {d : En → Rs O} : sRet d e = (d e).out fun o e1 => .rt o e1 := Eq.trans rfl rfl
@[simp] theorem z44 {d : En → Rs Bool} {a b : En → Out} : sIf d a b e = (d e).out fun k e1 => if k = true then a e1 else b e1 := Eq.trans rfl rfl
def nxo : Option En → Out
  | some e => .nx e
  | none => .bad
@[simp] theorem z45 : nxo (some e) = .nx e := Eq.trans rfl rfl
@[simp] theorem z46 {d : En → Rs O} {t : Tg} : sAsg d t e = (d e).out fun o e1 => nxo (t o e1) := Eq.trans rfl rfl
@[simp] theorem z47 {n : Nat} {o : O} : tName n o e = setS e n o := Eq.trans rfl rfl
@[simp] theorem z48 : tgNil [] e = some e := Eq.trans rfl rfl
@[simp] theorem z49 {a : Tg} {b : Tgs} {d : D} {ds : List D} : tgCons a b (d :: ds) e = (a (.d d) e).bind fun e1 => b ds e1 := Eq.trans rfl rfl
@[simp] theorem z50 {t : Tgs} {ds : List D} : tTupl t (.d (.tup ds)) e = t ds e := Eq.trans rfl rfl
@[simp] theorem z51 {m n : Nat} {d : En → Rs (List O)} : sPar m n d e = (d e).out fun os e1 => match os with
  | [a, b] => match setS e1 m a with
    | some e2 => match setS e2 n b with
      | some e3 => .nx e3
      | none => .bad
    | none => .bad
  | _ => .bad := Eq.trans rfl rfl
def aug1 (n : Nat) (e1 : En) : Option O → Out
  | some z => nxo (setS e1 n z)
  | none => .bad
@[simp] theorem z52a {n : Nat} {z : O} : aug1 n e (some z) = nxo (setS e n z) := Eq.trans rfl rfl
def aug2 (n : Nat) (f : O → O → Option O) (e1 : En) : Option O → Option O → Out
  | some a, some b => aug1 n e1 (f a b)
  | _, _ => .bad
@[simp] theorem z52b {n : Nat} {f : O → O → Option O} {a b : O} : aug2 n f e (some a) (some b) = aug1 n e (f a b) := Eq.trans rfl rfl
def aug3 (n : Nat) (f : O → O → Option O) (d : En → Rs Ar) (e : En) : Option O → Out
  | some _ => (d e).out fun y e1 => aug2 n f e1 (slot e1 n) (y.get e1)
  | none => .bad
@[simp] theorem z52c {n : Nat} {f : O → O → Option O} {d : En → Rs Ar} {a : O} : aug3 n f d e (some a) = (d e).out fun y e1 => aug2 n f e1 (slot e1 n) (y.get e1) := Eq.trans rfl rfl
@[simp] theorem z52 {n : Nat} {f : O → O → Option O} {d : En → Rs Ar} : sAug n f d e = aug3 n f d e (slot e n) := by
  unfold sAug aug3
  cases slot e n with
  | none => rfl
  | some _ =>
    cases h : d e with
    | ok y e1 =>
      simp only [h, z4]
      unfold aug2
      cases slot e1 n <;> cases y.get e1 <;> rfl
    | exc => simp only [h]; rfl
    | bad => simp only [h]; rfl
@[simp] theorem z53 {it : En → Rs (List D)} {t : Tg} {b : En → Out} : sFor it t b e = (it e).out fun ds e1 => sForL t b ds e1 := Eq.trans rfl rfl
@[simp] theorem z54 {n : Nat} : gName n e = match slot e n with
  | some (.d x) => .ok (.d x, none) e
  | some o => .ok (o, some n) (lentS e n)
  | none => .bad := Eq.trans rfl rfl
@[simp] theorem z55 {d : En → Rs O} : gVal d e = (d e).bind fun o e1 => .ok (o, none) e1 := Eq.trans rfl rfl
@[simp] theorem z56 : cNil e = .ok [] e := Eq.trans rfl rfl
@[simp] theorem z57 {g : En → Rs Ag} {r : En → Rs (List Ag)} : cCons g r e = (g e).bind fun a e1 => (r e1).bind fun as e2 => .ok (a :: as) e2 := Eq.trans rfl rfl
@[simp] theorem z58 {a b : En → Rs (List Ag)} : cApp a b e = (a e).bind fun as e1 => (b e1).bind fun bs e2 => .ok (as ++ bs) e2 := Eq.trans rfl rfl
def callR (r : RF) (as : List Ag) (e1 : En) : Rs O := match r with
  | .ok o ps => match wb e1 as ps with
    | some e2 => .ok o e2
    | none => .bad
  | .exc c pl ps => match wb e1 as ps with
    | some e2 => .exc c pl e2
    | none => .bad
  | .bad => .bad
def okO (o : O) : Option En → Rs O
  | some e2 => .ok o e2
  | none => .bad
@[simp] theorem z59 {o : O} {qs : List (Option O)} {as : List Ag} : callR (.ok o qs) as e1 = okO o (wb e1 as qs) := by cases h : wb e1 as qs <;> simp [callR, okO, h]
@[simp] theorem z60 {o : O} : okO o (some e) = .ok o e := Eq.trans rfl rfl
def excO' (c : String) (pl : List (Str × D)) : Option En → Rs O
  | some e2 => .exc c pl e2
  | none => .bad
@[simp] theorem z61 {qs : List (Option O)} {as : List Ag} : callR (.exc c ps qs) as e1 = excO' c ps (wb e1 as qs) := by cases h : wb e1 as qs <;> simp [callR, excO', h]
@[simp] theorem z62 : excO' c ps (some e) = .exc c ps e := Eq.trans rfl rfl
@[simp] theorem z63 {den : Den} {p : List Nat} {g : En → Rs (List Ag)} : dCallF den p g e = (g e).bind fun as e1 => callR (den ((ord p as).map (·.1))) (ord p as) e1 := Eq.trans rfl rfl
@[simp] theorem z64 {o : O} {as : List Ag} {q : Option O} {qs : List (Option O)} : wb e ((o, none) :: as) (q :: qs) = wb e as qs := by cases q <;> rfl
@[simp] theorem z65 {q : List (Option O)} : wb e [] q = some e := by cases q <;> rfl
def mut1 (n : Nat) (e1 : En) : Option (List O × O) → Rs O
  | some (c', z) => .ok z (putS e1 n (.lst c'))
  | none => .bad
@[simp] theorem z66a {n : Nat} {c' : List O} {z : O} : mut1 n e (some (c', z)) = .ok z (putS e n (.lst c')) := Eq.trans rfl rfl
def mut2 (n : Nat) (f : List O → List O → Option (List O × O)) (os : List O) (e1 : En) : Option O → Rs O
  | some (.lst c) => mut1 n e1 (f c os)
  | _ => .bad
@[simp] theorem z66b {n : Nat} {f : List O → List O → Option (List O × O)} {os c : List O} : mut2 n f os e (some (.lst c)) = mut1 n e (f c os) := Eq.trans rfl rfl
def mut3 (n : Nat) (f : List O → List O → Option (List O × O)) (d : En → Rs (List O)) (e : En) : Bool → Rs O
  | true => (d e).bind fun os e1 => mut2 n f os e1 (slot e1 n)
  | false => .bad
@[simp] theorem z66c {n : Nat} {f : List O → List O → Option (List O × O)} {d : En → Rs (List O)} : mut3 n f d e true = (d e).bind fun os e1 => mut2 n f os e1 (slot e1 n) := Eq.trans rfl rfl
@[simp] theorem z66 {n : Nat} {f} {d : En → Rs (List O)} : dMut n f d e = mut3 n f d e (isLst (slot e n)) := Eq.trans rfl rfl
@[simp] theorem z67 {xs : List O} : isLst (some (.lst xs)) = true := Eq.trans rfl rfl
def gds (e : En) : Option (List D) → Rs (List D)
  | some ds => .ok ds e
  | none => .bad
def gops (f : List O → Option (List D)) (e : En) : Option (List O) → Rs (List D)
  | some os => gds e (f os)
  | none => .bad
@[simp] theorem z68a {ds : List D} : gds e (some ds) = .ok ds e := Eq.trans rfl rfl
@[simp] theorem z68b {f : List O → Option (List D)} {os : List O} : gops f e (some os) = gds e (f os) := Eq.trans rfl rfl
@[simp] theorem z68 {d : En → Rs (List Ar)} {f : List O → Option (List D)} : iOps d f e = (d e).bind fun xs e1 => gops f e1 (gets e1 xs) := Eq.trans rfl rfl
@[simp] theorem z69 : dYes e = .ok true e := Eq.trans rfl rfl
@[simp] theorem z70 {it : En → Rs (List D)} {vs : List Nat} {t : Tg} {d : En → Rs Bool} {el : En → Rs O} : dLc it vs t d el e = (it e).bind fun ds e1 => lcL vs t d el ds [] (wipeE e1 vs) := Eq.trans rfl rfl
@[simp] theorem z71 : oNone e = .ok none e := Eq.trans rfl rfl
@[simp] theorem z72 {d : En → Rs Ar} : oSome d e = (d e).bind fun x e1 => match x.get e1 with
  | some (.d (.int i)) => .ok (some i) e1
  | _ => .bad := Eq.trans rfl rfl
def sl1 (f : O → Option Int → Option Int → Option O) (a : Option O) (l u : Option Int) (e : En) : Rs O := match a with
  | some a => fin (f a l u) e
  | none => .bad
@[simp] theorem z73 {f} {a : O} {l u : Option Int} : sl1 f (some a) l u e = fin (f a l u) e := Eq.trans rfl rfl
@[simp] theorem z74 {f} {d : En → Rs Ar} {lo hi : En → Rs (Option Int)} : dSl f d lo hi e = (d e).bind fun x e1 => (lo e1).bind fun l e2 => (hi e2).bind fun u e3 => sl1 f (x.get e3) l u e3 := Eq.trans rfl rfl
def orR {α : Type} (r : Rs α) (s : En → Rs α) (e : En) : Rs α := match r with
  | .bad => s e
  | r => r
@[simp] theorem z75 {s : En → Rs α} : orR (.ok x e1) s e = .ok x e1 := Eq.trans rfl rfl
@[simp] theorem z76 {s : En → Rs α} : orR (.exc c ps e1) s e = .exc c ps e1 := Eq.trans rfl rfl
@[simp] theorem z77 {s : En → Rs α} : orR .bad s e = s e := Eq.trans rfl rfl
@[simp] theorem z78 {a b : En → Rs α} : dOr a b e = orR (a e) b e := Eq.trans rfl rfl
@[simp] theorem z79 {d : En → Rs O} : dFz d e = (d e).bind fun o e1 => .ok (.d o.fz) e1 := Eq.trans rfl rfl
def tsub1 (n : Nat) (o : O) (e2 : En) : Option O → Option O → Option En
  | some ko, some c => match c.store ko o with
    | some c' => some (putS e2 n c')
    | none => none
  | _, _ => none
def tsub0 (n : Nat) (e : En) : Option O → Option En
  | some c' => some (putS e n c')
  | none => none
@[simp] theorem z80b {n : Nat} {c' : O} : tsub0 n e (some c') = some (putS e n c') := Eq.trans rfl rfl
@[simp] theorem z80 {n : Nat} {o ko c : O} : tsub1 n o e (some ko) (some c) = tsub0 n e (c.store ko o) := by
  cases h : c.store ko o with
  | none => simp only [tsub1, tsub0, h]
  | some c' => simp only [tsub1, tsub0, h]
def tsub2 (n : Nat) (o : O) : Rs Ar → Option En
  | .ok x e2 => tsub1 n o e2 (x.get e2) (slot e2 n)
  | _ => none
@[simp] theorem z81 {n : Nat} {o : O} {x : Ar} : tsub2 n o (.ok x e) = tsub1 n o e (x.get e) (slot e n) := Eq.trans rfl rfl
def tsub3 (n : Nat) (o : O) (dk : En → Rs Ar) (e : En) : Option O → Option En
  | some _ => tsub2 n o (dk e)
  | none => none
@[simp] theorem z82b {n : Nat} {o c : O} {dk : En → Rs Ar} : tsub3 n o dk e (some c) = tsub2 n o (dk e) := Eq.trans rfl rfl
@[simp] theorem z82 {n : Nat} {dk : En → Rs Ar} {o : O} : tSub n dk o e = tsub3 n o dk e (slot e n) := by
  unfold tSub tsub3 tsub2 tsub1
  cases slot e n with
  | none => rfl
  | some c => cases dk e <;> rfl
@[simp] theorem z83 {d : En → Rs (List O)} {f : List D → Option (List D)} : iAr d f e = (d e).bind fun os e1 => gds e1 (f (fzs os)) := Eq.trans rfl rfl
@[simp] theorem z84 {d : En → Rs O} : iRev d e = (d e).bind fun o e1 => gds e1 ((seqD o.fz).map List.reverse) := by
  unfold iRev
  cases d e with
  | ok o e1 =>
    simp only [z1]
    cases seqD o.fz <;> rfl
  | _ => rfl
def any1 (o : O) (e1 : En) : Rs (List D) := match o with
  | .lst os => .ok (fzs os) e1
  | .d (.lst ds) => .ok ds e1
  | .d (.tup ds) => .ok ds e1
  | _ => .bad
@[simp] theorem z85 {d : En → Rs O} : iAny d e = (d e).bind any1 := by
  unfold iAny dOr iSeq iTupl any1
  cases h : d e with
  | bad => simp [h]
  | exc c ps e1 => simp [h]
  | ok o e1 =>
    simp only [h, z1]
    cases o with
    | d x => cases x <;> simp
    | _ => simp
@[simp] theorem z86 {os : List O} : any1 (.lst os) e = .ok (fzs os) e := Eq.trans rfl rfl
@[simp] theorem z87 {ds : List D} : any1 (.d (.lst ds)) e = .ok ds e := Eq.trans rfl rfl
@[simp] theorem z88 {ds : List D} : any1 (.d (.tup ds)) e = .ok ds e := Eq.trans rfl rfl
@[simp] theorem z89 {d : En → Rs Ar} : rg1 d e = (d e).bind fun x e1 => match x.get e1 with
  | some (.d (.int n)) => .ok ((0 : Int), n) e1
  | _ => .bad := Eq.trans rfl rfl
@[simp] theorem z90 {d d2 : En → Rs Ar} : rg2 d d2 e = (d e).bind fun x e1 => (d2 e1).bind fun y e2 => match x.get e2, y.get e2 with
  | some (.d (.int n)), some (.d (.int m)) => .ok (n, m) e2
  | _, _ => .bad := Eq.trans rfl rfl
@[simp] theorem z91 {d : En → Rs (Int × Int)} : dLRg d e = (d e).bind fun ab e1 => if rgB ab.1 ab.2 = true then .ok (.lst ((rgD ab.1 ab.2).map .d)) e1 else .bad := Eq.trans rfl rfl
@[simp] theorem z92 {d : En → Rs (Int × Int)} : dTRg d e = (d e).bind fun ab e1 => if rgB ab.1 ab.2 = true then .ok (.d (.tup (rgD ab.1 ab.2))) e1 else .bad := Eq.trans rfl rfl
def meth2 (f : O → List O → Option O) (e2 : En) : Option O → Option (List O) → Rs O
  | some a, some os => fin (f a os) e2
  | _, _ => .bad
@[simp] theorem z93a {f : O → List O → Option O} {a : O} {os : List O} : meth2 f e (some a) (some os) = fin (f a os) e := Eq.trans rfl rfl
def meth1 (T : String) (f : O → List O → Option O) (d : En → Rs (List Ar)) (x : Ar) (e1 : En) : Option O → Rs O
  | some a0 => if a0.ty = T then (d e1).bind fun xs e2 => meth2 f e2 (x.get e2) (gets e2 xs) else .bad
  | none => .bad
@[simp] theorem z93b {T : String} {f : O → List O → Option O} {d : En → Rs (List Ar)} {x : Ar} {a0 : O} : meth1 T f d x e (some a0) = if a0.ty = T then (d e).bind fun xs e2 => meth2 f e2 (x.get e2) (gets e2 xs) else .bad := Eq.trans rfl rfl
@[simp] theorem z93 {T : String} {f} {da : En → Rs Ar} {d : En → Rs (List Ar)} : dMeth T f da d e = (da e).bind fun x e1 => meth1 T f d x e1 (x.get e1) := Eq.trans rfl rfl
@[simp] theorem z94 {it : En → Rs (List D)} {vs : List Nat} {t : Tg} {d : En → Rs Bool} {it1 : En → Rs (List D)} {vs1 : List Nat} {t1 : Tg} {d1 : En → Rs Bool} {el : En → Rs O} : dLc2 it vs t d it1 vs1 t1 d1 el e = (it e).bind fun ds e1 => lc2L vs t d it1 vs1 t1 d1 el ds [] (wipeE e1 vs) := Eq.trans rfl rfl
@[simp] theorem z95 : sRaise c e = .exc c [] e := Eq.trans rfl rfl
@[simp] theorem z96 : aAll [] e = .ok [] e := Eq.trans rfl rfl
@[simp] theorem z97 {d : En → Rs O} {ds : List (En → Rs O)} : aAll (d :: ds) e = (d e).bind fun o e1 => (aAll ds e1).bind fun os e2 => .ok (o :: os) e2 := Eq.trans rfl rfl
@[simp] theorem z98 {ks : List Key} {ds : List (En → Rs O)} : dDisp ks ds e = (aAll ds e).bind fun os e1 => .ok (.dic ks os) e1 := Eq.trans rfl rfl
@[simp] theorem z99 {n : Nat} : dVar n e = match slot e n with
  | some (.d x) => .ok (.d x) e
  | some o => .ok (.d o.fz) (putS e n (.d o.fz))
  | none => .bad := Eq.trans rfl rfl
@[simp] theorem z100 : fzs [] = [] := Eq.trans rfl rfl
@[simp] theorem z101 {o : O} {os : List O} : fzs (o :: os) = o.fz :: fzs os := Eq.trans rfl rfl
@[simp] theorem z102 {x : D} : O.fz (.d x) = x := Eq.trans rfl rfl
@[simp] theorem z103 {os : List O} : O.fz (.lst os) = .lst (fzs os) := Eq.trans rfl rfl
@[simp] theorem z104 {xs : List D} : fzs (xs.map O.d) = xs := fzs_leaf xs
@[simp] theorem z104b {γ : Type} {f : γ → D} {xs : List γ} : fzs (xs.map (O.d ∘ f)) = xs.map f := by rw [← List.map_map, fzs_leaf]
@[simp] theorem z105 {a : α} {l : List α} : ord [0] (a :: l) = [a] := Eq.trans rfl rfl
@[simp] theorem z106 : ord [] ([] : List α) = [] := Eq.trans rfl rfl
@[simp] theorem z107 {a b : α} {l : List α} : ord [0, 1] (a :: b :: l) = [a, b] := Eq.trans rfl rfl
@[simp] theorem z108 {a b c : α} {l : List α} : ord [0, 1, 2] (a :: b :: c :: l) = [a, b, c] := Eq.trans rfl rfl
@[simp] theorem z109 {a b c d : α} {l : List α} : ord [0, 1, 2, 3] (a :: b :: c :: d :: l) = [a, b, c, d] := Eq.trans rfl rfl
@[simp] theorem z110 {a b c d f : α} {l : List α} : ord [0, 1, 2, 3, 4] (a :: b :: c :: d :: f :: l) = [a, b, c, d, f] := Eq.trans rfl rfl
def save3 (r o : O) (n : Nat) (e1 : En) (s1 : Sl) : Option O → Rs O
  | none => .ok r (e1.set n (s1.put o))
  | some _ => .bad
@[simp] theorem z111a {r o : O} {n : Nat} {s1 : Sl} : save3 r o n e s1 none = .ok r (e.set n (s1.put o)) := Eq.trans rfl rfl
def save2 (r o : O) (n : Nat) (e1 : En) : Option Sl → Rs O
  | some s1 => save3 r o n e1 s1 s1.cont
  | none => .bad
@[simp] theorem z111b {r o : O} {n : Nat} {s1 : Sl} : save2 r o n e (some s1) = save3 r o n e s1 s1.cont := Eq.trans rfl rfl
def save1 (d : En → Rs O) (n : Nat) (e : En) (s : Sl) : Option O → Rs O
  | some o => (d (e.set n s.lent)).bind fun r e1 => save2 r o n e1 e1[n]?
  | none => d e
@[simp] theorem z111c {d : En → Rs O} {n : Nat} {s : Sl} {o : O} : save1 d n e s (some o) = (d (e.set n s.lent)).bind fun r e1 => save2 r o n e1 e1[n]? := Eq.trans rfl rfl
@[simp] theorem z111d {d : En → Rs O} {n : Nat} {s : Sl} : save1 d n e s none = d e := Eq.trans rfl rfl
def save0 (d : En → Rs O) (n : Nat) (e : En) : Option Sl → Rs O
  | some s => save1 d n e s s.cont
  | none => d e
@[simp] theorem z111e {d : En → Rs O} {n : Nat} {s : Sl} : save0 d n e (some s) = save1 d n e s s.cont := Eq.trans rfl rfl
@[simp] theorem z111 {d : En → Rs O} {n : Nat} : dSave n d e = save0 d n e e[n]? := Eq.trans rfl rfl
@[simp] theorem z112 : wipeE e [] = e := Eq.trans rfl rfl
@[simp] theorem z113 {v : Nat} {vs : List Nat} : wipeE e (v :: vs) = (wipeE e vs).set v .no := Eq.trans rfl rfl
@[simp] theorem y1 : fAdd (.d (.int i)) (.d (.int j)) = some (.d (.int (i + j))) := Eq.trans rfl rfl
@[simp] theorem y2 : fSub (.d (.int i)) (.d (.int j)) = some (.d (.int (i - j))) := Eq.trans rfl rfl
@[simp] theorem y3 : fLt (.d (.int i)) (.d (.int j)) = some (.d (.bl (decide (i < j)))) := Eq.trans rfl rfl
@[simp] theorem y4 : fLe (.d (.int i)) (.d (.int j)) = some (.d (.bl (decide (i ≤ j)))) := Eq.trans rfl rfl
@[simp] theorem y5 : fGt (.d (.int i)) (.d (.int j)) = some (.d (.bl (decide (j < i)))) := Eq.trans rfl rfl
@[simp] theorem y6 : fGe (.d (.int i)) (.d (.int j)) = some (.d (.bl (decide (j ≤ i)))) := Eq.trans rfl rfl
@[simp] theorem y7 : fEq (.d (.int i)) (.d (.int j)) = some (.d (.bl (decide (i = j)))) := Eq.trans rfl rfl
@[simp] theorem y8 : fNe (.d (.int i)) (.d (.int j)) = some (.d (.bl (!decide (i = j)))) := Eq.trans rfl rfl
@[simp] theorem y9 : fNeg (.d (.int i)) = some (.d (.int (-i))) := Eq.trans rfl rfl
@[simp] theorem y10 : on1 fInt [.d (.int i)] = some (.d (.int i)) := Eq.trans rfl rfl
@[simp] theorem y11 : on1 fInt [.d (.bl b)] = some (.d (.int (if b = true then 1 else 0))) := Eq.trans rfl rfl
@[simp] theorem y12 {ds : List D} : fLenU [.d (.lst ds)] = some (.d (.int ds.length)) := Eq.trans rfl rfl
@[simp] theorem y13 {ds : List D} : fLenU [.d (.tup ds)] = some (.d (.int ds.length)) := Eq.trans rfl rfl
@[simp] theorem y14 {os : List O} : fLenU [.lst os] = some (.d (.int os.length)) := Eq.trans rfl rfl
theorem sm_of {i : Int} (h1 : -(2 ^ 64) < i) (h2 : i < 2 ^ 64) : isSm i = true := by
  unfold isSm; rw [decide_eq_true h1, decide_eq_true h2]; rfl
theorem y15 (h : isSm i = true) : fMul (.d (.int i)) (.d (.int j)) = some (.d (.int (i * j))) := by simp [fMul, fMulS, onI, h]
theorem y16 (h : isSm j = true) : fMul (.d (.int i)) (.d (.int j)) = some (.d (.int (i * j))) := by simp [fMul, fMulS, onI, h]
theorem y17 (h : 0 < j) : fMod (.d (.int i)) (.d (.int j)) = some (.d (.int (i % j))) := by simp [fMod, onI, h]
theorem y18 (h : 0 < j) (h2 : j < 2 ^ 64) : fDiv (.d (.int i)) (.d (.int j)) = some (.d (.int (i / j))) := by
  have h3 : j.natAbs.log2 < 9000 := by
    by_cases h0 : j.natAbs = 0
    · rw [h0]; decide
    · exact Nat.lt_trans ((Nat.log2_lt h0).mpr (by have : j.natAbs < 2 ^ 64 := by omega
                                                   exact this)) (by decide)
  simp [fDiv, onI, h, h3]
@[simp] theorem w0a {s : Sl} : slot (s :: e) 0 = s.cont := Eq.trans rfl rfl
@[simp] theorem w0b {s : Sl} {o : O} : putS (s :: e) 0 o = s.put o :: e := Eq.trans rfl rfl
@[simp] theorem w0c {s : Sl} : lentS (s :: e) 0 = s.lent :: e := Eq.trans rfl rfl
@[simp] theorem w0d {o : O} : setS (.no :: e) 0 o = some (.v o :: e) := Eq.trans rfl rfl
@[simp] theorem w0e {o x : O} : setS (.v x :: e) 0 o = some (.v o :: e) := Eq.trans rfl rfl
@[simp] theorem w0i {s : Sl} {o : O} (h : s.pinned = false) : setS (s :: e) 0 o = some (.v o :: e) := by simp [setS, h]
@[simp] theorem w0f {o : O} : dMove 0 (.v o :: e) = .ok o (.no :: e) := Eq.trans rfl rfl
@[simp] theorem w0g {s : Sl} {o q : O} {as : List Ag} {qs : List (Option O)} (h : s.cont = none) : wb (s :: e) ((o, some 0) :: as) (some q :: qs) = wb (s.put q :: e) as qs := by simp [wb, h, putS, modS]
@[simp] theorem w0h {s : Sl} {t : Sl} : List.set (s :: e) 0 t = t :: e := Eq.trans rfl rfl
@[simp] theorem w1a {s0 : Sl} {s : Sl} : slot (s0 :: s :: e) 1 = s.cont := Eq.trans rfl rfl
@[simp] theorem w1b {s0 : Sl} {s : Sl} {o : O} : putS (s0 :: s :: e) 1 o = s0 :: s.put o :: e := Eq.trans rfl rfl
@[simp] theorem w1c {s0 : Sl} {s : Sl} : lentS (s0 :: s :: e) 1 = s0 :: s.lent :: e := Eq.trans rfl rfl
@[simp] theorem w1d {s0 : Sl} {o : O} : setS (s0 :: .no :: e) 1 o = some (s0 :: .v o :: e) := Eq.trans rfl rfl
@[simp] theorem w1e {s0 : Sl} {o x : O} : setS (s0 :: .v x :: e) 1 o = some (s0 :: .v o :: e) := Eq.trans rfl rfl
@[simp] theorem w1i {s0 : Sl} {s : Sl} {o : O} (h : s.pinned = false) : setS (s0 :: s :: e) 1 o = some (s0 :: .v o :: e) := by simp [setS, h]
@[simp] theorem w1f {s0 : Sl} {o : O} : dMove 1 (s0 :: .v o :: e) = .ok o (s0 :: .no :: e) := Eq.trans rfl rfl
@[simp] theorem w1g {s0 : Sl} {s : Sl} {o q : O} {as : List Ag} {qs : List (Option O)} (h : s.cont = none) : wb (s0 :: s :: e) ((o, some 1) :: as) (some q :: qs) = wb (s0 :: s.put q :: e) as qs := by simp [wb, h, putS, modS]
@[simp] theorem w1h {s0 : Sl} {s : Sl} {t : Sl} : List.set (s0 :: s :: e) 1 t = s0 :: t :: e := Eq.trans rfl rfl
@[simp] theorem w2a {s0 s1 : Sl} {s : Sl} : slot (s0 :: s1 :: s :: e) 2 = s.cont := Eq.trans rfl rfl
@[simp] theorem w2b {s0 s1 : Sl} {s : Sl} {o : O} : putS (s0 :: s1 :: s :: e) 2 o = s0 :: s1 :: s.put o :: e := Eq.trans rfl rfl
@[simp] theorem w2c {s0 s1 : Sl} {s : Sl} : lentS (s0 :: s1 :: s :: e) 2 = s0 :: s1 :: s.lent :: e := Eq.trans rfl rfl
@[simp] theorem w2d {s0 s1 : Sl} {o : O} : setS (s0 :: s1 :: .no :: e) 2 o = some (s0 :: s1 :: .v o :: e) := Eq.trans rfl rfl
@[simp] theorem w2e {s0 s1 : Sl} {o x : O} : setS (s0 :: s1 :: .v x :: e) 2 o = some (s0 :: s1 :: .v o :: e) := Eq.trans rfl rfl
@[simp] theorem w2i {s0 s1 : Sl} {s : Sl} {o : O} (h : s.pinned = false) : setS (s0 :: s1 :: s :: e) 2 o = some (s0 :: s1 :: .v o :: e) := by simp [setS, h]
@[simp] theorem w2f {s0 s1 : Sl} {o : O} : dMove 2 (s0 :: s1 :: .v o :: e) = .ok o (s0 :: s1 :: .no :: e) := Eq.trans rfl rfl
@[simp] theorem w2g {s0 s1 : Sl} {s : Sl} {o q : O} {as : List Ag} {qs : List (Option O)} (h : s.cont = none) : wb (s0 :: s1 :: s :: e) ((o, some 2) :: as) (some q :: qs) = wb (s0 :: s1 :: s.put q :: e) as qs := by simp [wb, h, putS, modS]
@[simp] theorem w2h {s0 s1 : Sl} {s : Sl} {t : Sl} : List.set (s0 :: s1 :: s :: e) 2 t = s0 :: s1 :: t :: e := Eq.trans rfl rfl
@[simp] theorem w3a {s0 s1 s2 : Sl} {s : Sl} : slot (s0 :: s1 :: s2 :: s :: e) 3 = s.cont := Eq.trans rfl rfl
@[simp] theorem w3b {s0 s1 s2 : Sl} {s : Sl} {o : O} : putS (s0 :: s1 :: s2 :: s :: e) 3 o = s0 :: s1 :: s2 :: s.put o :: e := Eq.trans rfl rfl
@[simp] theorem w3c {s0 s1 s2 : Sl} {s : Sl} : lentS (s0 :: s1 :: s2 :: s :: e) 3 = s0 :: s1 :: s2 :: s.lent :: e := Eq.trans rfl rfl
@[simp] theorem w3d {s0 s1 s2 : Sl} {o : O} : setS (s0 :: s1 :: s2 :: .no :: e) 3 o = some (s0 :: s1 :: s2 :: .v o :: e) := Eq.trans rfl rfl
@[simp] theorem w3e {s0 s1 s2 : Sl} {o x : O} : setS (s0 :: s1 :: s2 :: .v x :: e) 3 o = some (s0 :: s1 :: s2 :: .v o :: e) := Eq.trans rfl rfl
@[simp] theorem w3i {s0 s1 s2 : Sl} {s : Sl} {o : O} (h : s.pinned = false) : setS (s0 :: s1 :: s2 :: s :: e) 3 o = some (s0 :: s1 :: s2 :: .v o :: e) := by simp [setS, h]
@[simp] theorem w3f {s0 s1 s2 : Sl} {o : O} : dMove 3 (s0 :: s1 :: s2 :: .v o :: e) = .ok o (s0 :: s1 :: s2 :: .no :: e) := Eq.trans rfl rfl
@[simp] theorem w3g {s0 s1 s2 : Sl} {s : Sl} {o q : O} {as : List Ag} {qs : List (Option O)} (h : s.cont = none) : wb (s0 :: s1 :: s2 :: s :: e) ((o, some 3) :: as) (some q :: qs) = wb (s0 :: s1 :: s2 :: s.put q :: e) as qs := by simp [wb, h, putS, modS]
@[simp] theorem w3h {s0 s1 s2 : Sl} {s : Sl} {t : Sl} : List.set (s0 :: s1 :: s2 :: s :: e) 3 t = s0 :: s1 :: s2 :: t :: e := Eq.trans rfl rfl
@[simp] theorem w4a {s0 s1 s2 s3 : Sl} {s : Sl} : slot (s0 :: s1 :: s2 :: s3 :: s :: e) 4 = s.cont := Eq.trans rfl rfl
@[simp] theorem w4b {s0 s1 s2 s3 : Sl} {s : Sl} {o : O} : putS (s0 :: s1 :: s2 :: s3 :: s :: e) 4 o = s0 :: s1 :: s2 :: s3 :: s.put o :: e := Eq.trans rfl rfl
@[simp] theorem w4c {s0 s1 s2 s3 : Sl} {s : Sl} : lentS (s0 :: s1 :: s2 :: s3 :: s :: e) 4 = s0 :: s1 :: s2 :: s3 :: s.lent :: e := Eq.trans rfl rfl
@[simp] theorem w4d {s0 s1 s2 s3 : Sl} {o : O} : setS (s0 :: s1 :: s2 :: s3 :: .no :: e) 4 o = some (s0 :: s1 :: s2 :: s3 :: .v o :: e) := Eq.trans rfl rfl
@[simp] theorem w4e {s0 s1 s2 s3 : Sl} {o x : O} : setS (s0 :: s1 :: s2 :: s3 :: .v x :: e) 4 o = some (s0 :: s1 :: s2 :: s3 :: .v o :: e) := Eq.trans rfl rfl
@[simp] theorem w4i {s0 s1 s2 s3 : Sl} {s : Sl} {o : O} (h : s.pinned = false) : setS (s0 :: s1 :: s2 :: s3 :: s :: e) 4 o = some (s0 :: s1 :: s2 :: s3 :: .v o :: e) := by simp [setS, h]
@[simp] theorem w4f {s0 s1 s2 s3 : Sl} {o : O} : dMove 4 (s0 :: s1 :: s2 :: s3 :: .v o :: e) = .ok o (s0 :: s1 :: s2 :: s3 :: .no :: e) := Eq.trans rfl rfl
@[simp] theorem w4g {s0 s1 s2 s3 : Sl} {s : Sl} {o q : O} {as : List Ag} {qs : List (Option O)} (h : s.cont = none) : wb (s0 :: s1 :: s2 :: s3 :: s :: e) ((o, some 4) :: as) (some q :: qs) = wb (s0 :: s1 :: s2 :: s3 :: s.put q :: e) as qs := by simp [wb, h, putS, modS]
@[simp] theorem w4h {s0 s1 s2 s3 : Sl} {s : Sl} {t : Sl} : List.set (s0 :: s1 :: s2 :: s3 :: s :: e) 4 t = s0 :: s1 :: s2 :: s3 :: t :: e := Eq.trans rfl rfl
@[simp] theorem w5a {s0 s1 s2 s3 s4 : Sl} {s : Sl} : slot (s0 :: s1 :: s2 :: s3 :: s4 :: s :: e) 5 = s.cont := Eq.trans rfl rfl
@[simp] theorem w5b {s0 s1 s2 s3 s4 : Sl} {s : Sl} {o : O} : putS (s0 :: s1 :: s2 :: s3 :: s4 :: s :: e) 5 o = s0 :: s1 :: s2 :: s3 :: s4 :: s.put o :: e := Eq.trans rfl rfl
@[simp] theorem w5c {s0 s1 s2 s3 s4 : Sl} {s : Sl} : lentS (s0 :: s1 :: s2 :: s3 :: s4 :: s :: e) 5 = s0 :: s1 :: s2 :: s3 :: s4 :: s.lent :: e := Eq.trans rfl rfl
@[simp] theorem w5d {s0 s1 s2 s3 s4 : Sl} {o : O} : setS (s0 :: s1 :: s2 :: s3 :: s4 :: .no :: e) 5 o = some (s0 :: s1 :: s2 :: s3 :: s4 :: .v o :: e) := Eq.trans rfl rfl
@[simp] theorem w5e {s0 s1 s2 s3 s4 : Sl} {o x : O} : setS (s0 :: s1 :: s2 :: s3 :: s4 :: .v x :: e) 5 o = some (s0 :: s1 :: s2 :: s3 :: s4 :: .v o :: e) := Eq.trans rfl rfl
@[simp] theorem w5i {s0 s1 s2 s3 s4 : Sl} {s : Sl} {o : O} (h : s.pinned = false) : setS (s0 :: s1 :: s2 :: s3 :: s4 :: s :: e) 5 o = some (s0 :: s1 :: s2 :: s3 :: s4 :: .v o :: e) := by simp [setS, h]
@[simp] theorem w5f {s0 s1 s2 s3 s4 : Sl} {o : O} : dMove 5 (s0 :: s1 :: s2 :: s3 :: s4 :: .v o :: e) = .ok o (s0 :: s1 :: s2 :: s3 :: s4 :: .no :: e) := Eq.trans rfl rfl
@[simp] theorem w5g {s0 s1 s2 s3 s4 : Sl} {s : Sl} {o q : O} {as : List Ag} {qs : List (Option O)} (h : s.cont = none) : wb (s0 :: s1 :: s2 :: s3 :: s4 :: s :: e) ((o, some 5) :: as) (some q :: qs) = wb (s0 :: s1 :: s2 :: s3 :: s4 :: s.put q :: e) as qs := by simp [wb, h, putS, modS]
@[simp] theorem w5h {s0 s1 s2 s3 s4 : Sl} {s : Sl} {t : Sl} : List.set (s0 :: s1 :: s2 :: s3 :: s4 :: s :: e) 5 t = s0 :: s1 :: s2 :: s3 :: s4 :: t :: e := Eq.trans rfl rfl
@[simp] theorem w6a {s0 s1 s2 s3 s4 s5 : Sl} {s : Sl} : slot (s0 :: s1 :: s2 :: s3 :: s4 :: s5 :: s :: e) 6 = s.cont := Eq.trans rfl rfl
@[simp] theorem w6b {s0 s1 s2 s3 s4 s5 : Sl} {s : Sl} {o : O} : putS (s0 :: s1 :: s2 :: s3 :: s4 :: s5 :: s :: e) 6 o = s0 :: s1 :: s2 :: s3 :: s4 :: s5 :: s.put o :: e := Eq.trans rfl rfl
@[simp] theorem w6c {s0 s1 s2 s3 s4 s5 : Sl} {s : Sl} : lentS (s0 :: s1 :: s2 :: s3 :: s4 :: s5 :: s :: e) 6 = s0 :: s1 :: s2 :: s3 :: s4 :: s5 :: s.lent :: e := Eq.trans rfl rfl
@[simp] theorem w6d {s0 s1 s2 s3 s4 s5 : Sl} {o : O} : setS (s0 :: s1 :: s2 :: s3 :: s4 :: s5 :: .no :: e) 6 o = some (s0 :: s1 :: s2 :: s3 :: s4 :: s5 :: .v o :: e) := Eq.trans rfl rfl
@[simp] theorem w6e {s0 s1 s2 s3 s4 s5 : Sl} {o x : O} : setS (s0 :: s1 :: s2 :: s3 :: s4 :: s5 :: .v x :: e) 6 o = some (s0 :: s1 :: s2 :: s3 :: s4 :: s5 :: .v o :: e) := Eq.trans rfl rfl
@[simp] theorem w6i {s0 s1 s2 s3 s4 s5 : Sl} {s : Sl} {o : O} (h : s.pinned = false) : setS (s0 :: s1 :: s2 :: s3 :: s4 :: s5 :: s :: e) 6 o = some (s0 :: s1 :: s2 :: s3 :: s4 :: s5 :: .v o :: e) := by simp [setS, h]
@[simp] theorem w6f {s0 s1 s2 s3 s4 s5 : Sl} {o : O} : dMove 6 (s0 :: s1 :: s2 :: s3 :: s4 :: s5 :: .v o :: e) = .ok o (s0 :: s1 :: s2 :: s3 :: s4 :: s5 :: .no :: e) := Eq.trans rfl rfl
@[simp] theorem w6g {s0 s1 s2 s3 s4 s5 : Sl} {s : Sl} {o q : O} {as : List Ag} {qs : List (Option O)} (h : s.cont = none) : wb (s0 :: s1 :: s2 :: s3 :: s4 :: s5 :: s :: e) ((o, some 6) :: as) (some q :: qs) = wb (s0 :: s1 :: s2 :: s3 :: s4 :: s5 :: s.put q :: e) as qs := by simp [wb, h, putS, modS]
@[simp] theorem w6h {s0 s1 s2 s3 s4 s5 : Sl} {s : Sl} {t : Sl} : List.set (s0 :: s1 :: s2 :: s3 :: s4 :: s5 :: s :: e) 6 t = s0 :: s1 :: s2 :: s3 :: s4 :: s5 :: t :: e := Eq.trans rfl rfl
@[simp] theorem w7a {s0 s1 s2 s3 s4 s5 s6 : Sl} {s : Sl} : slot (s0 :: s1 :: s2 :: s3 :: s4 :: s5 :: s6 :: s :: e) 7 = s.cont := Eq.trans rfl rfl
@[simp] theorem w7b {s0 s1 s2 s3 s4 s5 s6 : Sl} {s : Sl} {o : O} : putS (s0 :: s1 :: s2 :: s3 :: s4 :: s5 :: s6 :: s :: e) 7 o = s0 :: s1 :: s2 :: s3 :: s4 :: s5 :: s6 :: s.put o :: e := Eq.trans rfl rfl
@[simp] theorem w7c {s0 s1 s2 s3 s4 s5 s6 : Sl} {s : Sl} : lentS (s0 :: s1 :: s2 :: s3 :: s4 :: s5 :: s6 :: s :: e) 7 = s0 :: s1 :: s2 :: s3 :: s4 :: s5 :: s6 :: s.lent :: e := Eq.trans rfl rfl
@[simp] theorem w7d {s0 s1 s2 s3 s4 s5 s6 : Sl} {o : O} : setS (s0 :: s1 :: s2 :: s3 :: s4 :: s5 :: s6 :: .no :: e) 7 o = some (s0 :: s1 :: s2 :: s3 :: s4 :: s5 :: s6 :: .v o :: e) := Eq.trans rfl rfl
@[simp] theorem w7e {s0 s1 s2 s3 s4 s5 s6 : Sl} {o x : O} : setS (s0 :: s1 :: s2 :: s3 :: s4 :: s5 :: s6 :: .v x :: e) 7 o = some (s0 :: s1 :: s2 :: s3 :: s4 :: s5 :: s6 :: .v o :: e) := Eq.trans rfl rfl
@[simp] theorem w7i {s0 s1 s2 s3 s4 s5 s6 : Sl} {s : Sl} {o : O} (h : s.pinned = false) : setS (s0 :: s1 :: s2 :: s3 :: s4 :: s5 :: s6 :: s :: e) 7 o = some (s0 :: s1 :: s2 :: s3 :: s4 :: s5 :: s6 :: .v o :: e) := by simp [setS, h]
@[simp] theorem w7f {s0 s1 s2 s3 s4 s5 s6 : Sl} {o : O} : dMove 7 (s0 :: s1 :: s2 :: s3 :: s4 :: s5 :: s6 :: .v o :: e) = .ok o (s0 :: s1 :: s2 :: s3 :: s4 :: s5 :: s6 :: .no :: e) := Eq.trans rfl rfl
@[simp] theorem w7g {s0 s1 s2 s3 s4 s5 s6 : Sl} {s : Sl} {o q : O} {as : List Ag} {qs : List (Option O)} (h : s.cont = none) : wb (s0 :: s1 :: s2 :: s3 :: s4 :: s5 :: s6 :: s :: e) ((o, some 7) :: as) (some q :: qs) = wb (s0 :: s1 :: s2 :: s3 :: s4 :: s5 :: s6 :: s.put q :: e) as qs := by simp [wb, h, putS, modS]
@[simp] theorem w7h {s0 s1 s2 s3 s4 s5 s6 : Sl} {s : Sl} {t : Sl} : List.set (s0 :: s1 :: s2 :: s3 :: s4 :: s5 :: s6 :: s :: e) 7 t = s0 :: s1 :: s2 :: s3 :: s4 :: s5 :: s6 :: t :: e := Eq.trans rfl rfl
@[simp] theorem w8a {s0 s1 s2 s3 s4 s5 s6 s7 : Sl} {s : Sl} : slot (s0 :: s1 :: s2 :: s3 :: s4 :: s5 :: s6 :: s7 :: s :: e) 8 = s.cont := Eq.trans rfl rfl
@[simp] theorem w8b {s0 s1 s2 s3 s4 s5 s6 s7 : Sl} {s : Sl} {o : O} : putS (s0 :: s1 :: s2 :: s3 :: s4 :: s5 :: s6 :: s7 :: s :: e) 8 o = s0 :: s1 :: s2 :: s3 :: s4 :: s5 :: s6 :: s7 :: s.put o :: e := Eq.trans rfl rfl
@[simp] theorem w8c {s0 s1 s2 s3 s4 s5 s6 s7 : Sl} {s : Sl} : lentS (s0 :: s1 :: s2 :: s3 :: s4 :: s5 :: s6 :: s7 :: s :: e) 8 = s0 :: s1 :: s2 :: s3 :: s4 :: s5 :: s6 :: s7 :: s.lent :: e := Eq.trans rfl rfl
@[simp] theorem w8d {s0 s1 s2 s3 s4 s5 s6 s7 : Sl} {o : O} : setS (s0 :: s1 :: s2 :: s3 :: s4 :: s5 :: s6 :: s7 :: .no :: e) 8 o = some (s0 :: s1 :: s2 :: s3 :: s4 :: s5 :: s6 :: s7 :: .v o :: e) := Eq.trans rfl rfl
@[simp] theorem w8e {s0 s1 s2 s3 s4 s5 s6 s7 : Sl} {o x : O} : setS (s0 :: s1 :: s2 :: s3 :: s4 :: s5 :: s6 :: s7 :: .v x :: e) 8 o = some (s0 :: s1 :: s2 :: s3 :: s4 :: s5 :: s6 :: s7 :: .v o :: e) := Eq.trans rfl rfl
@[simp] theorem w8i {s0 s1 s2 s3 s4 s5 s6 s7 : Sl} {s : Sl} {o : O} (h : s.pinned = false) : setS (s0 :: s1 :: s2 :: s3 :: s4 :: s5 :: s6 :: s7 :: s :: e) 8 o = some (s0 :: s1 :: s2 :: s3 :: s4 :: s5 :: s6 :: s7 :: .v o :: e) := by simp [setS, h]
@[simp] theorem w8f {s0 s1 s2 s3 s4 s5 s6 s7 : Sl} {o : O} : dMove 8 (s0 :: s1 :: s2 :: s3 :: s4 :: s5 :: s6 :: s7 :: .v o :: e) = .ok o (s0 :: s1 :: s2 :: s3 :: s4 :: s5 :: s6 :: s7 :: .no :: e) := Eq.trans rfl rfl
@[simp] theorem w8g {s0 s1 s2 s3 s4 s5 s6 s7 : Sl} {s : Sl} {o q : O} {as : List Ag} {qs : List (Option O)} (h : s.cont = none) : wb (s0 :: s1 :: s2 :: s3 :: s4 :: s5 :: s6 :: s7 :: s :: e) ((o, some 8) :: as) (some q :: qs) = wb (s0 :: s1 :: s2 :: s3 :: s4 :: s5 :: s6 :: s7 :: s.put q :: e) as qs := by simp [wb, h, putS, modS]
@[simp] theorem w8h {s0 s1 s2 s3 s4 s5 s6 s7 : Sl} {s : Sl} {t : Sl} : List.set (s0 :: s1 :: s2 :: s3 :: s4 :: s5 :: s6 :: s7 :: s :: e) 8 t = s0 :: s1 :: s2 :: s3 :: s4 :: s5 :: s6 :: s7 :: t :: e := Eq.trans rfl rfl
@[simp] theorem w9a {s0 s1 s2 s3 s4 s5 s6 s7 s8 : Sl} {s : Sl} : slot (s0 :: s1 :: s2 :: s3 :: s4 :: s5 :: s6 :: s7 :: s8 :: s :: e) 9 = s.cont := Eq.trans rfl rfl
@[simp] theorem w9b {s0 s1 s2 s3 s4 s5 s6 s7 s8 : Sl} {s : Sl} {o : O} : putS (s0 :: s1 :: s2 :: s3 :: s4 :: s5 :: s6 :: s7 :: s8 :: s :: e) 9 o = s0 :: s1 :: s2 :: s3 :: s4 :: s5 :: s6 :: s7 :: s8 :: s.put o :: e := Eq.trans rfl rfl
@[simp] theorem w9c {s0 s1 s2 s3 s4 s5 s6 s7 s8 : Sl} {s : Sl} : lentS (s0 :: s1 :: s2 :: s3 :: s4 :: s5 :: s6 :: s7 :: s8 :: s :: e) 9 = s0 :: s1 :: s2 :: s3 :: s4 :: s5 :: s6 :: s7 :: s8 :: s.lent :: e := Eq.trans rfl rfl
@[simp] theorem w9d {s0 s1 s2 s3 s4 s5 s6 s7 s8 : Sl} {o : O} : setS (s0 :: s1 :: s2 :: s3 :: s4 :: s5 :: s6 :: s7 :: s8 :: .no :: e) 9 o = some (s0 :: s1 :: s2 :: s3 :: s4 :: s5 :: s6 :: s7 :: s8 :: .v o :: e) := Eq.trans rfl rfl
@[simp] theorem w9e {s0 s1 s2 s3 s4 s5 s6 s7 s8 : Sl} {o x : O} : setS (s0 :: s1 :: s2 :: s3 :: s4 :: s5 :: s6 :: s7 :: s8 :: .v x :: e) 9 o = some (s0 :: s1 :: s2 :: s3 :: s4 :: s5 :: s6 :: s7 :: s8 :: .v o :: e) := Eq.trans rfl rfl
@[simp] theorem w9i {s0 s1 s2 s3 s4 s5 s6 s7 s8 : Sl} {s : Sl} {o : O} (h : s.pinned = false) : setS (s0 :: s1 :: s2 :: s3 :: s4 :: s5 :: s6 :: s7 :: s8 :: s :: e) 9 o = some (s0 :: s1 :: s2 :: s3 :: s4 :: s5 :: s6 :: s7 :: s8 :: .v o :: e) := by simp [setS, h]
@[simp] theorem w9f {s0 s1 s2 s3 s4 s5 s6 s7 s8 : Sl} {o : O} : dMove 9 (s0 :: s1 :: s2 :: s3 :: s4 :: s5 :: s6 :: s7 :: s8 :: .v o :: e) = .ok o (s0 :: s1 :: s2 :: s3 :: s4 :: s5 :: s6 :: s7 :: s8 :: .no :: e) := Eq.trans rfl rfl
@[simp] theorem w9g {s0 s1 s2 s3 s4 s5 s6 s7 s8 : Sl} {s : Sl} {o q : O} {as : List Ag} {qs : List (Option O)} (h : s.cont = none) : wb (s0 :: s1 :: s2 :: s3 :: s4 :: s5 :: s6 :: s7 :: s8 :: s :: e) ((o, some 9) :: as) (some q :: qs) = wb (s0 :: s1 :: s2 :: s3 :: s4 :: s5 :: s6 :: s7 :: s8 :: s.put q :: e) as qs := by simp [wb, h, putS, modS]
@[simp] theorem w9h {s0 s1 s2 s3 s4 s5 s6 s7 s8 : Sl} {s : Sl} {t : Sl} : List.set (s0 :: s1 :: s2 :: s3 :: s4 :: s5 :: s6 :: s7 :: s8 :: s :: e) 9 t = s0 :: s1 :: s2 :: s3 :: s4 :: s5 :: s6 :: s7 :: s8 :: t :: e := Eq.trans rfl rfl
@[simp] theorem w10a {s0 s1 s2 s3 s4 s5 s6 s7 s8 s9 : Sl} {s : Sl} : slot (s0 :: s1 :: s2 :: s3 :: s4 :: s5 :: s6 :: s7 :: s8 :: s9 :: s :: e) 10 = s.cont := Eq.trans rfl rfl
@[simp] theorem w10b {s0 s1 s2 s3 s4 s5 s6 s7 s8 s9 : Sl} {s : Sl} {o : O} : putS (s0 :: s1 :: s2 :: s3 :: s4 :: s5 :: s6 :: s7 :: s8 :: s9 :: s :: e) 10 o = s0 :: s1 :: s2 :: s3 :: s4 :: s5 :: s6 :: s7 :: s8 :: s9 :: s.put o :: e := Eq.trans rfl rfl
@[simp] theorem w10c {s0 s1 s2 s3 s4 s5 s6 s7 s8 s9 : Sl} {s : Sl} : lentS (s0 :: s1 :: s2 :: s3 :: s4 :: s5 :: s6 :: s7 :: s8 :: s9 :: s :: e) 10 = s0 :: s1 :: s2 :: s3 :: s4 :: s5 :: s6 :: s7 :: s8 :: s9 :: s.lent :: e := Eq.trans rfl rfl
@[simp] theorem w10d {s0 s1 s2 s3 s4 s5 s6 s7 s8 s9 : Sl} {o : O} : setS (s0 :: s1 :: s2 :: s3 :: s4 :: s5 :: s6 :: s7 :: s8 :: s9 :: .no :: e) 10 o = some (s0 :: s1 :: s2 :: s3 :: s4 :: s5 :: s6 :: s7 :: s8 :: s9 :: .v o :: e) := Eq.trans rfl rfl
@[simp] theorem w10e {s0 s1 s2 s3 s4 s5 s6 s7 s8 s9 : Sl} {o x : O} : setS (s0 :: s1 :: s2 :: s3 :: s4 :: s5 :: s6 :: s7 :: s8 :: s9 :: .v x :: e) 10 o = some (s0 :: s1 :: s2 :: s3 :: s4 :: s5 :: s6 :: s7 :: s8 :: s9 :: .v o :: e) := Eq.trans rfl rfl
@[simp] theorem w10i {s0 s1 s2 s3 s4 s5 s6 s7 s8 s9 : Sl} {s : Sl} {o : O} (h : s.pinned = false) : setS (s0 :: s1 :: s2 :: s3 :: s4 :: s5 :: s6 :: s7 :: s8 :: s9 :: s :: e) 10 o = some (s0 :: s1 :: s2 :: s3 :: s4 :: s5 :: s6 :: s7 :: s8 :: s9 :: .v o :: e) := by simp [setS, h]
@[simp] theorem w10f {s0 s1 s2 s3 s4 s5 s6 s7 s8 s9 : Sl} {o : O} : dMove 10 (s0 :: s1 :: s2 :: s3 :: s4 :: s5 :: s6 :: s7 :: s8 :: s9 :: .v o :: e) = .ok o (s0 :: s1 :: s2 :: s3 :: s4 :: s5 :: s6 :: s7 :: s8 :: s9 :: .no :: e) := Eq.trans rfl rfl
@[simp] theorem w10g {s0 s1 s2 s3 s4 s5 s6 s7 s8 s9 : Sl} {s : Sl} {o q : O} {as : List Ag} {qs : List (Option O)} (h : s.cont = none) : wb (s0 :: s1 :: s2 :: s3 :: s4 :: s5 :: s6 :: s7 :: s8 :: s9 :: s :: e) ((o, some 10) :: as) (some q :: qs) = wb (s0 :: s1 :: s2 :: s3 :: s4 :: s5 :: s6 :: s7 :: s8 :: s9 :: s.put q :: e) as qs := by simp [wb, h, putS, modS]
@[simp] theorem w10h {s0 s1 s2 s3 s4 s5 s6 s7 s8 s9 : Sl} {s : Sl} {t : Sl} : List.set (s0 :: s1 :: s2 :: s3 :: s4 :: s5 :: s6 :: s7 :: s8 :: s9 :: s :: e) 10 t = s0 :: s1 :: s2 :: s3 :: s4 :: s5 :: s6 :: s7 :: s8 :: s9 :: t :: e := Eq.trans rfl rfl
@[simp] theorem w11a {s0 s1 s2 s3 s4 s5 s6 s7 s8 s9 s10 : Sl} {s : Sl} : slot (s0 :: s1 :: s2 :: s3 :: s4 :: s5 :: s6 :: s7 :: s8 :: s9 :: s10 :: s :: e) 11 = s.cont := Eq.trans rfl rfl
@[simp] theorem w11b {s0 s1 s2 s3 s4 s5 s6 s7 s8 s9 s10 : Sl} {s : Sl} {o : O} : putS (s0 :: s1 :: s2 :: s3 :: s4 :: s5 :: s6 :: s7 :: s8 :: s9 :: s10 :: s :: e) 11 o = s0 :: s1 :: s2 :: s3 :: s4 :: s5 :: s6 :: s7 :: s8 :: s9 :: s10 :: s.put o :: e := Eq.trans rfl rfl
@[simp] theorem w11c {s0 s1 s2 s3 s4 s5 s6 s7 s8 s9 s10 : Sl} {s : Sl} : lentS (s0 :: s1 :: s2 :: s3 :: s4 :: s5 :: s6 :: s7 :: s8 :: s9 :: s10 :: s :: e) 11 = s0 :: s1 :: s2 :: s3 :: s4 :: s5 :: s6 :: s7 :: s8 :: s9 :: s10 :: s.lent :: e := Eq.trans rfl rfl
@[simp] theorem w11d {s0 s1 s2 s3 s4 s5 s6 s7 s8 s9 s10 : Sl} {o : O} : setS (s0 :: s1 :: s2 :: s3 :: s4 :: s5 :: s6 :: s7 :: s8 :: s9 :: s10 :: .no :: e) 11 o = some (s0 :: s1 :: s2 :: s3 :: s4 :: s5 :: s6 :: s7 :: s8 :: s9 :: s10 :: .v o :: e) := Eq.trans rfl rfl
@[simp] theorem w11e {s0 s1 s2 s3 s4 s5 s6 s7 s8 s9 s10 : Sl} {o x : O} : setS (s0 :: s1 :: s2 :: s3 :: s4 :: s5 :: s6 :: s7 :: s8 :: s9 :: s10 :: .v x :: e) 11 o = some (s0 :: s1 :: s2 :: s3 :: s4 :: s5 :: s6 :: s7 :: s8 :: s9 :: s10 :: .v o :: e) := Eq.trans rfl rfl
@[simp] theorem w11i {s0 s1 s2 s3 s4 s5 s6 s7 s8 s9 s10 : Sl} {s : Sl} {o : O} (h : s.pinned = false) : setS (s0 :: s1 :: s2 :: s3 :: s4 :: s5 :: s6 :: s7 :: s8 :: s9 :: s10 :: s :: e) 11 o = some (s0 :: s1 :: s2 :: s3 :: s4 :: s5 :: s6 :: s7 :: s8 :: s9 :: s10 :: .v o :: e) := by simp [setS, h]
@[simp] theorem w11f {s0 s1 s2 s3 s4 s5 s6 s7 s8 s9 s10 : Sl} {o : O} : dMove 11 (s0 :: s1 :: s2 :: s3 :: s4 :: s5 :: s6 :: s7 :: s8 :: s9 :: s10 :: .v o :: e) = .ok o (s0 :: s1 :: s2 :: s3 :: s4 :: s5 :: s6 :: s7 :: s8 :: s9 :: s10 :: .no :: e) := Eq.trans rfl rfl
@[simp] theorem w11g {s0 s1 s2 s3 s4 s5 s6 s7 s8 s9 s10 : Sl} {s : Sl} {o q : O} {as : List Ag} {qs : List (Option O)} (h : s.cont = none) : wb (s0 :: s1 :: s2 :: s3 :: s4 :: s5 :: s6 :: s7 :: s8 :: s9 :: s10 :: s :: e) ((o, some 11) :: as) (some q :: qs) = wb (s0 :: s1 :: s2 :: s3 :: s4 :: s5 :: s6 :: s7 :: s8 :: s9 :: s10 :: s.put q :: e) as qs := by simp [wb, h, putS, modS]
@[simp] theorem w11h {s0 s1 s2 s3 s4 s5 s6 s7 s8 s9 s10 : Sl} {s : Sl} {t : Sl} : List.set (s0 :: s1 :: s2 :: s3 :: s4 :: s5 :: s6 :: s7 :: s8 :: s9 :: s10 :: s :: e) 11 t = s0 :: s1 :: s2 :: s3 :: s4 :: s5 :: s6 :: s7 :: s8 :: s9 :: s10 :: t :: e := Eq.trans rfl rfl
@[simp] theorem w12a {s0 s1 s2 s3 s4 s5 s6 s7 s8 s9 s10 s11 : Sl} {s : Sl} : slot (s0 :: s1 :: s2 :: s3 :: s4 :: s5 :: s6 :: s7 :: s8 :: s9 :: s10 :: s11 :: s :: e) 12 = s.cont := Eq.trans rfl rfl
@[simp] theorem w12b {s0 s1 s2 s3 s4 s5 s6 s7 s8 s9 s10 s11 : Sl} {s : Sl} {o : O} : putS (s0 :: s1 :: s2 :: s3 :: s4 :: s5 :: s6 :: s7 :: s8 :: s9 :: s10 :: s11 :: s :: e) 12 o = s0 :: s1 :: s2 :: s3 :: s4 :: s5 :: s6 :: s7 :: s8 :: s9 :: s10 :: s11 :: s.put o :: e := Eq.trans rfl rfl
@[simp] theorem w12c {s0 s1 s2 s3 s4 s5 s6 s7 s8 s9 s10 s11 : Sl} {s : Sl} : lentS (s0 :: s1 :: s2 :: s3 :: s4 :: s5 :: s6 :: s7 :: s8 :: s9 :: s10 :: s11 :: s :: e) 12 = s0 :: s1 :: s2 :: s3 :: s4 :: s5 :: s6 :: s7 :: s8 :: s9 :: s10 :: s11 :: s.lent :: e := Eq.trans rfl rfl
@[simp] theorem w12d {s0 s1 s2 s3 s4 s5 s6 s7 s8 s9 s10 s11 : Sl} {o : O} : setS (s0 :: s1 :: s2 :: s3 :: s4 :: s5 :: s6 :: s7 :: s8 :: s9 :: s10 :: s11 :: .no :: e) 12 o = some (s0 :: s1 :: s2 :: s3 :: s4 :: s5 :: s6 :: s7 :: s8 :: s9 :: s10 :: s11 :: .v o :: e) := Eq.trans rfl rfl
@[simp] theorem w12e {s0 s1 s2 s3 s4 s5 s6 s7 s8 s9 s10 s11 : Sl} {o x : O} : setS (s0 :: s1 :: s2 :: s3 :: s4 :: s5 :: s6 :: s7 :: s8 :: s9 :: s10 :: s11 :: .v x :: e) 12 o = some (s0 :: s1 :: s2 :: s3 :: s4 :: s5 :: s6 :: s7 :: s8 :: s9 :: s10 :: s11 :: .v o :: e) := Eq.trans rfl rfl
@[simp] theorem w12i {s0 s1 s2 s3 s4 s5 s6 s7 s8 s9 s10 s11 : Sl} {s : Sl} {o : O} (h : s.pinned = false) : setS (s0 :: s1 :: s2 :: s3 :: s4 :: s5 :: s6 :: s7 :: s8 :: s9 :: s10 :: s11 :: s :: e) 12 o = some (s0 :: s1 :: s2 :: s3 :: s4 :: s5 :: s6 :: s7 :: s8 :: s9 :: s10 :: s11 :: .v o :: e) := by simp [setS, h]
@[simp] theorem w12f {s0 s1 s2 s3 s4 s5 s6 s7 s8 s9 s10 s11 : Sl} {o : O} : dMove 12 (s0 :: s1 :: s2 :: s3 :: s4 :: s5 :: s6 :: s7 :: s8 :: s9 :: s10 :: s11 :: .v o :: e) = .ok o (s0 :: s1 :: s2 :: s3 :: s4 :: s5 :: s6 :: s7 :: s8 :: s9 :: s10 :: s11 :: .no :: e) := Eq.trans rfl rfl
@[simp] theorem w12g {s0 s1 s2 s3 s4 s5 s6 s7 s8 s9 s10 s11 : Sl} {s : Sl} {o q : O} {as : List Ag} {qs : List (Option O)} (h : s.cont = none) : wb (s0 :: s1 :: s2 :: s3 :: s4 :: s5 :: s6 :: s7 :: s8 :: s9 :: s10 :: s11 :: s :: e) ((o, some 12) :: as) (some q :: qs) = wb (s0 :: s1 :: s2 :: s3 :: s4 :: s5 :: s6 :: s7 :: s8 :: s9 :: s10 :: s11 :: s.put q :: e) as qs := by simp [wb, h, putS, modS]
@[simp] theorem w12h {s0 s1 s2 s3 s4 s5 s6 s7 s8 s9 s10 s11 : Sl} {s : Sl} {t : Sl} : List.set (s0 :: s1 :: s2 :: s3 :: s4 :: s5 :: s6 :: s7 :: s8 :: s9 :: s10 :: s11 :: s :: e) 12 t = s0 :: s1 :: s2 :: s3 :: s4 :: s5 :: s6 :: s7 :: s8 :: s9 :: s10 :: s11 :: t :: e := Eq.trans rfl rfl
@[simp] theorem w13a {s0 s1 s2 s3 s4 s5 s6 s7 s8 s9 s10 s11 s12 : Sl} {s : Sl} : slot (s0 :: s1 :: s2 :: s3 :: s4 :: s5 :: s6 :: s7 :: s8 :: s9 :: s10 :: s11 :: s12 :: s :: e) 13 = s.cont := Eq.trans rfl rfl
@[simp] theorem w13b {s0 s1 s2 s3 s4 s5 s6 s7 s8 s9 s10 s11 s12 : Sl} {s : Sl} {o : O} : putS (s0 :: s1 :: s2 :: s3 :: s4 :: s5 :: s6 :: s7 :: s8 :: s9 :: s10 :: s11 :: s12 :: s :: e) 13 o = s0 :: s1 :: s2 :: s3 :: s4 :: s5 :: s6 :: s7 :: s8 :: s9 :: s10 :: s11 :: s12 :: s.put o :: e := Eq.trans rfl rfl
@[simp] theorem w13c {s0 s1 s2 s3 s4 s5 s6 s7 s8 s9 s10 s11 s12 : Sl} {s : Sl} : lentS (s0 :: s1 :: s2 :: s3 :: s4 :: s5 :: s6 :: s7 :: s8 :: s9 :: s10 :: s11 :: s12 :: s :: e) 13 = s0 :: s1 :: s2 :: s3 :: s4 :: s5 :: s6 :: s7 :: s8 :: s9 :: s10 :: s11 :: s12 :: s.lent :: e := Eq.trans rfl rfl
@[simp] theorem w13d {s0 s1 s2 s3 s4 s5 s6 s7 s8 s9 s10 s11 s12 : Sl} {o : O} : setS (s0 :: s1 :: s2 :: s3 :: s4 :: s5 :: s6 :: s7 :: s8 :: s9 :: s10 :: s11 :: s12 :: .no :: e) 13 o = some (s0 :: s1 :: s2 :: s3 :: s4 :: s5 :: s6 :: s7 :: s8 :: s9 :: s10 :: s11 :: s12 :: .v o :: e) := Eq.trans rfl rfl
@[simp] theorem w13e {s0 s1 s2 s3 s4 s5 s6 s7 s8 s9 s10 s11 s12 : Sl} {o x : O} : setS (s0 :: s1 :: s2 :: s3 :: s4 :: s5 :: s6 :: s7 :: s8 :: s9 :: s10 :: s11 :: s12 :: .v x :: e) 13 o = some (s0 :: s1 :: s2 :: s3 :: s4 :: s5 :: s6 :: s7 :: s8 :: s9 :: s10 :: s11 :: s12 :: .v o :: e) := Eq.trans rfl rfl
@[simp] theorem w13i {s0 s1 s2 s3 s4 s5 s6 s7 s8 s9 s10 s11 s12 : Sl} {s : Sl} {o : O} (h : s.pinned = false) : setS (s0 :: s1 :: s2 :: s3 :: s4 :: s5 :: s6 :: s7 :: s8 :: s9 :: s10 :: s11 :: s12 :: s :: e) 13 o = some (s0 :: s1 :: s2 :: s3 :: s4 :: s5 :: s6 :: s7 :: s8 :: s9 :: s10 :: s11 :: s12 :: .v o :: e) := by simp [setS, h]
@[simp] theorem w13f {s0 s1 s2 s3 s4 s5 s6 s7 s8 s9 s10 s11 s12 : Sl} {o : O} : dMove 13 (s0 :: s1 :: s2 :: s3 :: s4 :: s5 :: s6 :: s7 :: s8 :: s9 :: s10 :: s11 :: s12 :: .v o :: e) = .ok o (s0 :: s1 :: s2 :: s3 :: s4 :: s5 :: s6 :: s7 :: s8 :: s9 :: s10 :: s11 :: s12 :: .no :: e) := Eq.trans rfl rfl
@[simp] theorem w13g {s0 s1 s2 s3 s4 s5 s6 s7 s8 s9 s10 s11 s12 : Sl} {s : Sl} {o q : O} {as : List Ag} {qs : List (Option O)} (h : s.cont = none) : wb (s0 :: s1 :: s2 :: s3 :: s4 :: s5 :: s6 :: s7 :: s8 :: s9 :: s10 :: s11 :: s12 :: s :: e) ((o, some 13) :: as) (some q :: qs) = wb (s0 :: s1 :: s2 :: s3 :: s4 :: s5 :: s6 :: s7 :: s8 :: s9 :: s10 :: s11 :: s12 :: s.put q :: e) as qs := by simp [wb, h, putS, modS]
@[simp] theorem w13h {s0 s1 s2 s3 s4 s5 s6 s7 s8 s9 s10 s11 s12 : Sl} {s : Sl} {t : Sl} : List.set (s0 :: s1 :: s2 :: s3 :: s4 :: s5 :: s6 :: s7 :: s8 :: s9 :: s10 :: s11 :: s12 :: s :: e) 13 t = s0 :: s1 :: s2 :: s3 :: s4 :: s5 :: s6 :: s7 :: s8 :: s9 :: s10 :: s11 :: s12 :: t :: e := Eq.trans rfl rfl
@[simp] theorem w14a {s0 s1 s2 s3 s4 s5 s6 s7 s8 s9 s10 s11 s12 s13 : Sl} {s : Sl} : slot (s0 :: s1 :: s2 :: s3 :: s4 :: s5 :: s6 :: s7 :: s8 :: s9 :: s10 :: s11 :: s12 :: s13 :: s :: e) 14 = s.cont := Eq.trans rfl rfl
@[simp] theorem w14b {s0 s1 s2 s3 s4 s5 s6 s7 s8 s9 s10 s11 s12 s13 : Sl} {s : Sl} {o : O} : putS (s0 :: s1 :: s2 :: s3 :: s4 :: s5 :: s6 :: s7 :: s8 :: s9 :: s10 :: s11 :: s12 :: s13 :: s :: e) 14 o = s0 :: s1 :: s2 :: s3 :: s4 :: s5 :: s6 :: s7 :: s8 :: s9 :: s10 :: s11 :: s12 :: s13 :: s.put o :: e := Eq.trans rfl rfl
@[simp] theorem w14c {s0 s1 s2 s3 s4 s5 s6 s7 s8 s9 s10 s11 s12 s13 : Sl} {s : Sl} : lentS (s0 :: s1 :: s2 :: s3 :: s4 :: s5 :: s6 :: s7 :: s8 :: s9 :: s10 :: s11 :: s12 :: s13 :: s :: e) 14 = s0 :: s1 :: s2 :: s3 :: s4 :: s5 :: s6 :: s7 :: s8 :: s9 :: s10 :: s11 :: s12 :: s13 :: s.lent :: e := Eq.trans rfl rfl
@[simp] theorem w14d {s0 s1 s2 s3 s4 s5 s6 s7 s8 s9 s10 s11 s12 s13 : Sl} {o : O} : setS (s0 :: s1 :: s2 :: s3 :: s4 :: s5 :: s6 :: s7 :: s8 :: s9 :: s10 :: s11 :: s12 :: s13 :: .no :: e) 14 o = some (s0 :: s1 :: s2 :: s3 :: s4 :: s5 :: s6 :: s7 :: s8 :: s9 :: s10 :: s11 :: s12 :: s13 :: .v o :: e) := Eq.trans rfl rfl
@[simp] theorem w14e {s0 s1 s2 s3 s4 s5 s6 s7 s8 s9 s10 s11 s12 s13 : Sl} {o x : O} : setS (s0 :: s1 :: s2 :: s3 :: s4 :: s5 :: s6 :: s7 :: s8 :: s9 :: s10 :: s11 :: s12 :: s13 :: .v x :: e) 14 o = some (s0 :: s1 :: s2 :: s3 :: s4 :: s5 :: s6 :: s7 :: s8 :: s9 :: s10 :: s11 :: s12 :: s13 :: .v o :: e) := Eq.trans rfl rfl
@[simp] theorem w14i {s0 s1 s2 s3 s4 s5 s6 s7 s8 s9 s10 s11 s12 s13 : Sl} {s : Sl} {o : O} (h : s.pinned = false) : setS (s0 :: s1 :: s2 :: s3 :: s4 :: s5 :: s6 :: s7 :: s8 :: s9 :: s10 :: s11 :: s12 :: s13 :: s :: e) 14 o = some (s0 :: s1 :: s2 :: s3 :: s4 :: s5 :: s6 :: s7 :: s8 :: s9 :: s10 :: s11 :: s12 :: s13 :: .v o :: e) := by simp [setS, h]
@[simp] theorem w14f {s0 s1 s2 s3 s4 s5 s6 s7 s8 s9 s10 s11 s12 s13 : Sl} {o : O} : dMove 14 (s0 :: s1 :: s2 :: s3 :: s4 :: s5 :: s6 :: s7 :: s8 :: s9 :: s10 :: s11 :: s12 :: s13 :: .v o :: e) = .ok o (s0 :: s1 :: s2 :: s3 :: s4 :: s5 :: s6 :: s7 :: s8 :: s9 :: s10 :: s11 :: s12 :: s13 :: .no :: e) := Eq.trans rfl rfl
@[simp] theorem w14g {s0 s1 s2 s3 s4 s5 s6 s7 s8 s9 s10 s11 s12 s13 : Sl} {s : Sl} {o q : O} {as : List Ag} {qs : List (Option O)} (h : s.cont = none) : wb (s0 :: s1 :: s2 :: s3 :: s4 :: s5 :: s6 :: s7 :: s8 :: s9 :: s10 :: s11 :: s12 :: s13 :: s :: e) ((o, some 14) :: as) (some q :: qs) = wb (s0 :: s1 :: s2 :: s3 :: s4 :: s5 :: s6 :: s7 :: s8 :: s9 :: s10 :: s11 :: s12 :: s13 :: s.put q :: e) as qs := by simp [wb, h, putS, modS]
@[simp] theorem w14h {s0 s1 s2 s3 s4 s5 s6 s7 s8 s9 s10 s11 s12 s13 : Sl} {s : Sl} {t : Sl} : List.set (s0 :: s1 :: s2 :: s3 :: s4 :: s5 :: s6 :: s7 :: s8 :: s9 :: s10 :: s11 :: s12 :: s13 :: s :: e) 14 t = s0 :: s1 :: s2 :: s3 :: s4 :: s5 :: s6 :: s7 :: s8 :: s9 :: s10 :: s11 :: s12 :: s13 :: t :: e := Eq.trans rfl rfl
@[simp] theorem w15a {s0 s1 s2 s3 s4 s5 s6 s7 s8 s9 s10 s11 s12 s13 s14 : Sl} {s : Sl} : slot (s0 :: s1 :: s2 :: s3 :: s4 :: s5 :: s6 :: s7 :: s8 :: s9 :: s10 :: s11 :: s12 :: s13 :: s14 :: s :: e) 15 = s.cont := Eq.trans rfl rfl
@[simp] theorem w15b {s0 s1 s2 s3 s4 s5 s6 s7 s8 s9 s10 s11 s12 s13 s14 : Sl} {s : Sl} {o : O} : putS (s0 :: s1 :: s2 :: s3 :: s4 :: s5 :: s6 :: s7 :: s8 :: s9 :: s10 :: s11 :: s12 :: s13 :: s14 :: s :: e) 15 o = s0 :: s1 :: s2 :: s3 :: s4 :: s5 :: s6 :: s7 :: s8 :: s9 :: s10 :: s11 :: s12 :: s13 :: s14 :: s.put o :: e := Eq.trans rfl rfl
@[simp] theorem w15c {s0 s1 s2 s3 s4 s5 s6 s7 s8 s9 s10 s11 s12 s13 s14 : Sl} {s : Sl} : lentS (s0 :: s1 :: s2 :: s3 :: s4 :: s5 :: s6 :: s7 :: s8 :: s9 :: s10 :: s11 :: s12 :: s13 :: s14 :: s :: e) 15 = s0 :: s1 :: s2 :: s3 :: s4 :: s5 :: s6 :: s7 :: s8 :: s9 :: s10 :: s11 :: s12 :: s13 :: s14 :: s.lent :: e := Eq.trans rfl rfl
@[simp] theorem w15d {s0 s1 s2 s3 s4 s5 s6 s7 s8 s9 s10 s11 s12 s13 s14 : Sl} {o : O} : setS (s0 :: s1 :: s2 :: s3 :: s4 :: s5 :: s6 :: s7 :: s8 :: s9 :: s10 :: s11 :: s12 :: s13 :: s14 :: .no :: e) 15 o = some (s0 :: s1 :: s2 :: s3 :: s4 :: s5 :: s6 :: s7 :: s8 :: s9 :: s10 :: s11 :: s12 :: s13 :: s14 :: .v o :: e) := Eq.trans rfl rfl
@[simp] theorem w15e {s0 s1 s2 s3 s4 s5 s6 s7 s8 s9 s10 s11 s12 s13 s14 : Sl} {o x : O} : setS (s0 :: s1 :: s2 :: s3 :: s4 :: s5 :: s6 :: s7 :: s8 :: s9 :: s10 :: s11 :: s12 :: s13 :: s14 :: .v x :: e) 15 o = some (s0 :: s1 :: s2 :: s3 :: s4 :: s5 :: s6 :: s7 :: s8 :: s9 :: s10 :: s11 :: s12 :: s13 :: s14 :: .v o :: e) := Eq.trans rfl rfl
@[simp] theorem w15i {s0 s1 s2 s3 s4 s5 s6 s7 s8 s9 s10 s11 s12 s13 s14 : Sl} {s : Sl} {o : O} (h : s.pinned = false) : setS (s0 :: s1 :: s2 :: s3 :: s4 :: s5 :: s6 :: s7 :: s8 :: s9 :: s10 :: s11 :: s12 :: s13 :: s14 :: s :: e) 15 o = some (s0 :: s1 :: s2 :: s3 :: s4 :: s5 :: s6 :: s7 :: s8 :: s9 :: s10 :: s11 :: s12 :: s13 :: s14 :: .v o :: e) := by simp [setS, h]
@[simp] theorem w15f {s0 s1 s2 s3 s4 s5 s6 s7 s8 s9 s10 s11 s12 s13 s14 : Sl} {o : O} : dMove 15 (s0 :: s1 :: s2 :: s3 :: s4 :: s5 :: s6 :: s7 :: s8 :: s9 :: s10 :: s11 :: s12 :: s13 :: s14 :: .v o :: e) = .ok o (s0 :: s1 :: s2 :: s3 :: s4 :: s5 :: s6 :: s7 :: s8 :: s9 :: s10 :: s11 :: s12 :: s13 :: s14 :: .no :: e) := Eq.trans rfl rfl
@[simp] theorem w15g {s0 s1 s2 s3 s4 s5 s6 s7 s8 s9 s10 s11 s12 s13 s14 : Sl} {s : Sl} {o q : O} {as : List Ag} {qs : List (Option O)} (h : s.cont = none) : wb (s0 :: s1 :: s2 :: s3 :: s4 :: s5 :: s6 :: s7 :: s8 :: s9 :: s10 :: s11 :: s12 :: s13 :: s14 :: s :: e) ((o, some 15) :: as) (some q :: qs) = wb (s0 :: s1 :: s2 :: s3 :: s4 :: s5 :: s6 :: s7 :: s8 :: s9 :: s10 :: s11 :: s12 :: s13 :: s14 :: s.put q :: e) as qs := by simp [wb, h, putS, modS]
@[simp] theorem w15h {s0 s1 s2 s3 s4 s5 s6 s7 s8 s9 s10 s11 s12 s13 s14 : Sl} {s : Sl} {t : Sl} : List.set (s0 :: s1 :: s2 :: s3 :: s4 :: s5 :: s6 :: s7 :: s8 :: s9 :: s10 :: s11 :: s12 :: s13 :: s14 :: s :: e) 15 t = s0 :: s1 :: s2 :: s3 :: s4 :: s5 :: s6 :: s7 :: s8 :: s9 :: s10 :: s11 :: s12 :: s13 :: s14 :: t :: e := Eq.trans rfl rfl
@[simp] theorem w16a {s0 s1 s2 s3 s4 s5 s6 s7 s8 s9 s10 s11 s12 s13 s14 s15 : Sl} {s : Sl} : slot (s0 :: s1 :: s2 :: s3 :: s4 :: s5 :: s6 :: s7 :: s8 :: s9 :: s10 :: s11 :: s12 :: s13 :: s14 :: s15 :: s :: e) 16 = s.cont := Eq.trans rfl rfl
@[simp] theorem w16b {s0 s1 s2 s3 s4 s5 s6 s7 s8 s9 s10 s11 s12 s13 s14 s15 : Sl} {s : Sl} {o : O} : putS (s0 :: s1 :: s2 :: s3 :: s4 :: s5 :: s6 :: s7 :: s8 :: s9 :: s10 :: s11 :: s12 :: s13 :: s14 :: s15 :: s :: e) 16 o = s0 :: s1 :: s2 :: s3 :: s4 :: s5 :: s6 :: s7 :: s8 :: s9 :: s10 :: s11 :: s12 :: s13 :: s14 :: s15 :: s.put o :: e := Eq.trans rfl rfl
@[simp] theorem w16c {s0 s1 s2 s3 s4 s5 s6 s7 s8 s9 s10 s11 s12 s13 s14 s15 : Sl} {s : Sl} : lentS (s0 :: s1 :: s2 :: s3 :: s4 :: s5 :: s6 :: s7 :: s8 :: s9 :: s10 :: s11 :: s12 :: s13 :: s14 :: s15 :: s :: e) 16 = s0 :: s1 :: s2 :: s3 :: s4 :: s5 :: s6 :: s7 :: s8 :: s9 :: s10 :: s11 :: s12 :: s13 :: s14 :: s15 :: s.lent :: e := Eq.trans rfl rfl
@[simp] theorem w16d {s0 s1 s2 s3 s4 s5 s6 s7 s8 s9 s10 s11 s12 s13 s14 s15 : Sl} {o : O} : setS (s0 :: s1 :: s2 :: s3 :: s4 :: s5 :: s6 :: s7 :: s8 :: s9 :: s10 :: s11 :: s12 :: s13 :: s14 :: s15 :: .no :: e) 16 o = some (s0 :: s1 :: s2 :: s3 :: s4 :: s5 :: s6 :: s7 :: s8 :: s9 :: s10 :: s11 :: s12 :: s13 :: s14 :: s15 :: .v o :: e) := Eq.trans rfl rfl
@[simp] theorem w16e {s0 s1 s2 s3 s4 s5 s6 s7 s8 s9 s10 s11 s12 s13 s14 s15 : Sl} {o x : O} : setS (s0 :: s1 :: s2 :: s3 :: s4 :: s5 :: s6 :: s7 :: s8 :: s9 :: s10 :: s11 :: s12 :: s13 :: s14 :: s15 :: .v x :: e) 16 o = some (s0 :: s1 :: s2 :: s3 :: s4 :: s5 :: s6 :: s7 :: s8 :: s9 :: s10 :: s11 :: s12 :: s13 :: s14 :: s15 :: .v o :: e) := Eq.trans rfl rfl
@[simp] theorem w16i {s0 s1 s2 s3 s4 s5 s6 s7 s8 s9 s10 s11 s12 s13 s14 s15 : Sl} {s : Sl} {o : O} (h : s.pinned = false) : setS (s0 :: s1 :: s2 :: s3 :: s4 :: s5 :: s6 :: s7 :: s8 :: s9 :: s10 :: s11 :: s12 :: s13 :: s14 :: s15 :: s :: e) 16 o = some (s0 :: s1 :: s2 :: s3 :: s4 :: s5 :: s6 :: s7 :: s8 :: s9 :: s10 :: s11 :: s12 :: s13 :: s14 :: s15 :: .v o :: e) := by simp [setS, h]
@[simp] theorem w16f {s0 s1 s2 s3 s4 s5 s6 s7 s8 s9 s10 s11 s12 s13 s14 s15 : Sl} {o : O} : dMove 16 (s0 :: s1 :: s2 :: s3 :: s4 :: s5 :: s6 :: s7 :: s8 :: s9 :: s10 :: s11 :: s12 :: s13 :: s14 :: s15 :: .v o :: e) = .ok o (s0 :: s1 :: s2 :: s3 :: s4 :: s5 :: s6 :: s7 :: s8 :: s9 :: s10 :: s11 :: s12 :: s13 :: s14 :: s15 :: .no :: e) := Eq.trans rfl rfl
@[simp] theorem w16g {s0 s1 s2 s3 s4 s5 s6 s7 s8 s9 s10 s11 s12 s13 s14 s15 : Sl} {s : Sl} {o q : O} {as : List Ag} {qs : List (Option O)} (h : s.cont = none) : wb (s0 :: s1 :: s2 :: s3 :: s4 :: s5 :: s6 :: s7 :: s8 :: s9 :: s10 :: s11 :: s12 :: s13 :: s14 :: s15 :: s :: e) ((o, some 16) :: as) (some q :: qs) = wb (s0 :: s1 :: s2 :: s3 :: s4 :: s5 :: s6 :: s7 :: s8 :: s9 :: s10 :: s11 :: s12 :: s13 :: s14 :: s15 :: s.put q :: e) as qs := by simp [wb, h, putS, modS]
@[simp] theorem w16h {s0 s1 s2 s3 s4 s5 s6 s7 s8 s9 s10 s11 s12 s13 s14 s15 : Sl} {s : Sl} {t : Sl} : List.set (s0 :: s1 :: s2 :: s3 :: s4 :: s5 :: s6 :: s7 :: s8 :: s9 :: s10 :: s11 :: s12 :: s13 :: s14 :: s15 :: s :: e) 16 t = s0 :: s1 :: s2 :: s3 :: s4 :: s5 :: s6 :: s7 :: s8 :: s9 :: s10 :: s11 :: s12 :: s13 :: s14 :: s15 :: t :: e := Eq.trans rfl rfl
@[simp] theorem w17a {s0 s1 s2 s3 s4 s5 s6 s7 s8 s9 s10 s11 s12 s13 s14 s15 s16 : Sl} {s : Sl} : slot (s0 :: s1 :: s2 :: s3 :: s4 :: s5 :: s6 :: s7 :: s8 :: s9 :: s10 :: s11 :: s12 :: s13 :: s14 :: s15 :: s16 :: s :: e) 17 = s.cont := Eq.trans rfl rfl
@[simp] theorem w17b {s0 s1 s2 s3 s4 s5 s6 s7 s8 s9 s10 s11 s12 s13 s14 s15 s16 : Sl} {s : Sl} {o : O} : putS (s0 :: s1 :: s2 :: s3 :: s4 :: s5 :: s6 :: s7 :: s8 :: s9 :: s10 :: s11 :: s12 :: s13 :: s14 :: s15 :: s16 :: s :: e) 17 o = s0 :: s1 :: s2 :: s3 :: s4 :: s5 :: s6 :: s7 :: s8 :: s9 :: s10 :: s11 :: s12 :: s13 :: s14 :: s15 :: s16 :: s.put o :: e := Eq.trans rfl rfl
@[simp] theorem w17c {s0 s1 s2 s3 s4 s5 s6 s7 s8 s9 s10 s11 s12 s13 s14 s15 s16 : Sl} {s : Sl} : lentS (s0 :: s1 :: s2 :: s3 :: s4 :: s5 :: s6 :: s7 :: s8 :: s9 :: s10 :: s11 :: s12 :: s13 :: s14 :: s15 :: s16 :: s :: e) 17 = s0 :: s1 :: s2 :: s3 :: s4 :: s5 :: s6 :: s7 :: s8 :: s9 :: s10 :: s11 :: s12 :: s13 :: s14 :: s15 :: s16 :: s.lent :: e := Eq.trans rfl rfl
@[simp] theorem w17d {s0 s1 s2 s3 s4 s5 s6 s7 s8 s9 s10 s11 s12 s13 s14 s15 s16 : Sl} {o : O} : setS (s0 :: s1 :: s2 :: s3 :: s4 :: s5 :: s6 :: s7 :: s8 :: s9 :: s10 :: s11 :: s12 :: s13 :: s14 :: s15 :: s16 :: .no :: e) 17 o = some (s0 :: s1 :: s2 :: s3 :: s4 :: s5 :: s6 :: s7 :: s8 :: s9 :: s10 :: s11 :: s12 :: s13 :: s14 :: s15 :: s16 :: .v o :: e) := Eq.trans rfl rfl
@[simp] theorem w17e {s0 s1 s2 s3 s4 s5 s6 s7 s8 s9 s10 s11 s12 s13 s14 s15 s16 : Sl} {o x : O} : setS (s0 :: s1 :: s2 :: s3 :: s4 :: s5 :: s6 :: s7 :: s8 :: s9 :: s10 :: s11 :: s12 :: s13 :: s14 :: s15 :: s16 :: .v x :: e) 17 o = some (s0 :: s1 :: s2 :: s3 :: s4 :: s5 :: s6 :: s7 :: s8 :: s9 :: s10 :: s11 :: s12 :: s13 :: s14 :: s15 :: s16 :: .v o :: e) := Eq.trans rfl rfl
@[simp] theorem w17i {s0 s1 s2 s3 s4 s5 s6 s7 s8 s9 s10 s11 s12 s13 s14 s15 s16 : Sl} {s : Sl} {o : O} (h : s.pinned = false) : setS (s0 :: s1 :: s2 :: s3 :: s4 :: s5 :: s6 :: s7 :: s8 :: s9 :: s10 :: s11 :: s12 :: s13 :: s14 :: s15 :: s16 :: s :: e) 17 o = some (s0 :: s1 :: s2 :: s3 :: s4 :: s5 :: s6 :: s7 :: s8 :: s9 :: s10 :: s11 :: s12 :: s13 :: s14 :: s15 :: s16 :: .v o :: e) := by simp [setS, h]
@[simp] theorem w17f {s0 s1 s2 s3 s4 s5 s6 s7 s8 s9 s10 s11 s12 s13 s14 s15 s16 : Sl} {o : O} : dMove 17 (s0 :: s1 :: s2 :: s3 :: s4 :: s5 :: s6 :: s7 :: s8 :: s9 :: s10 :: s11 :: s12 :: s13 :: s14 :: s15 :: s16 :: .v o :: e) = .ok o (s0 :: s1 :: s2 :: s3 :: s4 :: s5 :: s6 :: s7 :: s8 :: s9 :: s10 :: s11 :: s12 :: s13 :: s14 :: s15 :: s16 :: .no :: e) := Eq.trans rfl rfl
@[simp] theorem w17g {s0 s1 s2 s3 s4 s5 s6 s7 s8 s9 s10 s11 s12 s13 s14 s15 s16 : Sl} {s : Sl} {o q : O} {as : List Ag} {qs : List (Option O)} (h : s.cont = none) : wb (s0 :: s1 :: s2 :: s3 :: s4 :: s5 :: s6 :: s7 :: s8 :: s9 :: s10 :: s11 :: s12 :: s13 :: s14 :: s15 :: s16 :: s :: e) ((o, some 17) :: as) (some q :: qs) = wb (s0 :: s1 :: s2 :: s3 :: s4 :: s5 :: s6 :: s7 :: s8 :: s9 :: s10 :: s11 :: s12 :: s13 :: s14 :: s15 :: s16 :: s.put q :: e) as qs := by simp [wb, h, putS, modS]
@[simp] theorem w17h {s0 s1 s2 s3 s4 s5 s6 s7 s8 s9 s10 s11 s12 s13 s14 s15 s16 : Sl} {s : Sl} {t : Sl} : List.set (s0 :: s1 :: s2 :: s3 :: s4 :: s5 :: s6 :: s7 :: s8 :: s9 :: s10 :: s11 :: s12 :: s13 :: s14 :: s15 :: s16 :: s :: e) 17 t = s0 :: s1 :: s2 :: s3 :: s4 :: s5 :: s6 :: s7 :: s8 :: s9 :: s10 :: s11 :: s12 :: s13 :: s14 :: s15 :: s16 :: t :: e := Eq.trans rfl rfl
@[simp] theorem w18a {s0 s1 s2 s3 s4 s5 s6 s7 s8 s9 s10 s11 s12 s13 s14 s15 s16 s17 : Sl} {s : Sl} : slot (s0 :: s1 :: s2 :: s3 :: s4 :: s5 :: s6 :: s7 :: s8 :: s9 :: s10 :: s11 :: s12 :: s13 :: s14 :: s15 :: s16 :: s17 :: s :: e) 18 = s.cont := Eq.trans rfl rfl
@[simp] theorem w18b {s0 s1 s2 s3 s4 s5 s6 s7 s8 s9 s10 s11 s12 s13 s14 s15 s16 s17 : Sl} {s : Sl} {o : O} : putS (s0 :: s1 :: s2 :: s3 :: s4 :: s5 :: s6 :: s7 :: s8 :: s9 :: s10 :: s11 :: s12 :: s13 :: s14 :: s15 :: s16 :: s17 :: s :: e) 18 o = s0 :: s1 :: s2 :: s3 :: s4 :: s5 :: s6 :: s7 :: s8 :: s9 :: s10 :: s11 :: s12 :: s13 :: s14 :: s15 :: s16 :: s17 :: s.put o :: e := Eq.trans rfl rfl
@[simp] theorem w18c {s0 s1 s2 s3 s4 s5 s6 s7 s8 s9 s10 s11 s12 s13 s14 s15 s16 s17 : Sl} {s : Sl} : lentS (s0 :: s1 :: s2 :: s3 :: s4 :: s5 :: s6 :: s7 :: s8 :: s9 :: s10 :: s11 :: s12 :: s13 :: s14 :: s15 :: s16 :: s17 :: s :: e) 18 = s0 :: s1 :: s2 :: s3 :: s4 :: s5 :: s6 :: s7 :: s8 :: s9 :: s10 :: s11 :: s12 :: s13 :: s14 :: s15 :: s16 :: s17 :: s.lent :: e := Eq.trans rfl rfl
@[simp] theorem w18d {s0 s1 s2 s3 s4 s5 s6 s7 s8 s9 s10 s11 s12 s13 s14 s15 s16 s17 : Sl} {o : O} : setS (s0 :: s1 :: s2 :: s3 :: s4 :: s5 :: s6 :: s7 :: s8 :: s9 :: s10 :: s11 :: s12 :: s13 :: s14 :: s15 :: s16 :: s17 :: .no :: e) 18 o = some (s0 :: s1 :: s2 :: s3 :: s4 :: s5 :: s6 :: s7 :: s8 :: s9 :: s10 :: s11 :: s12 :: s13 :: s14 :: s15 :: s16 :: s17 :: .v o :: e) := Eq.trans rfl rfl
@[simp] theorem w18e {s0 s1 s2 s3 s4 s5 s6 s7 s8 s9 s10 s11 s12 s13 s14 s15 s16 s17 : Sl} {o x : O} : setS (s0 :: s1 :: s2 :: s3 :: s4 :: s5 :: s6 :: s7 :: s8 :: s9 :: s10 :: s11 :: s12 :: s13 :: s14 :: s15 :: s16 :: s17 :: .v x :: e) 18 o = some (s0 :: s1 :: s2 :: s3 :: s4 :: s5 :: s6 :: s7 :: s8 :: s9 :: s10 :: s11 :: s12 :: s13 :: s14 :: s15 :: s16 :: s17 :: .v o :: e) := Eq.trans rfl rfl
@[simp] theorem w18i {s0 s1 s2 s3 s4 s5 s6 s7 s8 s9 s10 s11 s12 s13 s14 s15 s16 s17 : Sl} {s : Sl} {o : O} (h : s.pinned = false) : setS (s0 :: s1 :: s2 :: s3 :: s4 :: s5 :: s6 :: s7 :: s8 :: s9 :: s10 :: s11 :: s12 :: s13 :: s14 :: s15 :: s16 :: s17 :: s :: e) 18 o = some (s0 :: s1 :: s2 :: s3 :: s4 :: s5 :: s6 :: s7 :: s8 :: s9 :: s10 :: s11 :: s12 :: s13 :: s14 :: s15 :: s16 :: s17 :: .v o :: e) := by simp [setS, h]
@[simp] theorem w18f {s0 s1 s2 s3 s4 s5 s6 s7 s8 s9 s10 s11 s12 s13 s14 s15 s16 s17 : Sl} {o : O} : dMove 18 (s0 :: s1 :: s2 :: s3 :: s4 :: s5 :: s6 :: s7 :: s8 :: s9 :: s10 :: s11 :: s12 :: s13 :: s14 :: s15 :: s16 :: s17 :: .v o :: e) = .ok o (s0 :: s1 :: s2 :: s3 :: s4 :: s5 :: s6 :: s7 :: s8 :: s9 :: s10 :: s11 :: s12 :: s13 :: s14 :: s15 :: s16 :: s17 :: .no :: e) := Eq.trans rfl rfl
@[simp] theorem w18g {s0 s1 s2 s3 s4 s5 s6 s7 s8 s9 s10 s11 s12 s13 s14 s15 s16 s17 : Sl} {s : Sl} {o q : O} {as : List Ag} {qs : List (Option O)} (h : s.cont = none) : wb (s0 :: s1 :: s2 :: s3 :: s4 :: s5 :: s6 :: s7 :: s8 :: s9 :: s10 :: s11 :: s12 :: s13 :: s14 :: s15 :: s16 :: s17 :: s :: e) ((o, some 18) :: as) (some q :: qs) = wb (s0 :: s1 :: s2 :: s3 :: s4 :: s5 :: s6 :: s7 :: s8 :: s9 :: s10 :: s11 :: s12 :: s13 :: s14 :: s15 :: s16 :: s17 :: s.put q :: e) as qs := by simp [wb, h, putS, modS]
@[simp] theorem w18h {s0 s1 s2 s3 s4 s5 s6 s7 s8 s9 s10 s11 s12 s13 s14 s15 s16 s17 : Sl} {s : Sl} {t : Sl} : List.set (s0 :: s1 :: s2 :: s3 :: s4 :: s5 :: s6 :: s7 :: s8 :: s9 :: s10 :: s11 :: s12 :: s13 :: s14 :: s15 :: s16 :: s17 :: s :: e) 18 t = s0 :: s1 :: s2 :: s3 :: s4 :: s5 :: s6 :: s7 :: s8 :: s9 :: s10 :: s11 :: s12 :: s13 :: s14 :: s15 :: s16 :: s17 :: t :: e := Eq.trans rfl rfl
@[simp] theorem w19a {s0 s1 s2 s3 s4 s5 s6 s7 s8 s9 s10 s11 s12 s13 s14 s15 s16 s17 s18 : Sl} {s : Sl} : slot (s0 :: s1 :: s2 :: s3 :: s4 :: s5 :: s6 :: s7 :: s8 :: s9 :: s10 :: s11 :: s12 :: s13 :: s14 :: s15 :: s16 :: s17 :: s18 :: s :: e) 19 = s.cont := Eq.trans rfl rfl
@[simp] theorem w19b {s0 s1 s2 s3 s4 s5 s6 s7 s8 s9 s10 s11 s12 s13 s14 s15 s16 s17 s18 : Sl} {s : Sl} {o : O} : putS (s0 :: s1 :: s2 :: s3 :: s4 :: s5 :: s6 :: s7 :: s8 :: s9 :: s10 :: s11 :: s12 :: s13 :: s14 :: s15 :: s16 :: s17 :: s18 :: s :: e) 19 o = s0 :: s1 :: s2 :: s3 :: s4 :: s5 :: s6 :: s7 :: s8 :: s9 :: s10 :: s11 :: s12 :: s13 :: s14 :: s15 :: s16 :: s17 :: s18 :: s.put o :: e := Eq.trans rfl rfl
@[simp] theorem w19c {s0 s1 s2 s3 s4 s5 s6 s7 s8 s9 s10 s11 s12 s13 s14 s15 s16 s17 s18 : Sl} {s : Sl} : lentS (s0 :: s1 :: s2 :: s3 :: s4 :: s5 :: s6 :: s7 :: s8 :: s9 :: s10 :: s11 :: s12 :: s13 :: s14 :: s15 :: s16 :: s17 :: s18 :: s :: e) 19 = s0 :: s1 :: s2 :: s3 :: s4 :: s5 :: s6 :: s7 :: s8 :: s9 :: s10 :: s11 :: s12 :: s13 :: s14 :: s15 :: s16 :: s17 :: s18 :: s.lent :: e := Eq.trans rfl rfl
@[simp] theorem w19d {s0 s1 s2 s3 s4 s5 s6 s7 s8 s9 s10 s11 s12 s13 s14 s15 s16 s17 s18 : Sl} {o : O} : setS (s0 :: s1 :: s2 :: s3 :: s4 :: s5 :: s6 :: s7 :: s8 :: s9 :: s10 :: s11 :: s12 :: s13 :: s14 :: s15 :: s16 :: s17 :: s18 :: .no :: e) 19 o = some (s0 :: s1 :: s2 :: s3 :: s4 :: s5 :: s6 :: s7 :: s8 :: s9 :: s10 :: s11 :: s12 :: s13 :: s14 :: s15 :: s16 :: s17 :: s18 :: .v o :: e) := Eq.trans rfl rfl
@[simp] theorem w19e {s0 s1 s2 s3 s4 s5 s6 s7 s8 s9 s10 s11 s12 s13 s14 s15 s16 s17 s18 : Sl} {o x : O} : setS (s0 :: s1 :: s2 :: s3 :: s4 :: s5 :: s6 :: s7 :: s8 :: s9 :: s10 :: s11 :: s12 :: s13 :: s14 :: s15 :: s16 :: s17 :: s18 :: .v x :: e) 19 o = some (s0 :: s1 :: s2 :: s3 :: s4 :: s5 :: s6 :: s7 :: s8 :: s9 :: s10 :: s11 :: s12 :: s13 :: s14 :: s15 :: s16 :: s17 :: s18 :: .v o :: e) := Eq.trans rfl rfl
@[simp] theorem w19i {s0 s1 s2 s3 s4 s5 s6 s7 s8 s9 s10 s11 s12 s13 s14 s15 s16 s17 s18 : Sl} {s : Sl} {o : O} (h : s.pinned = false) : setS (s0 :: s1 :: s2 :: s3 :: s4 :: s5 :: s6 :: s7 :: s8 :: s9 :: s10 :: s11 :: s12 :: s13 :: s14 :: s15 :: s16 :: s17 :: s18 :: s :: e) 19 o = some (s0 :: s1 :: s2 :: s3 :: s4 :: s5 :: s6 :: s7 :: s8 :: s9 :: s10 :: s11 :: s12 :: s13 :: s14 :: s15 :: s16 :: s17 :: s18 :: .v o :: e) := by simp [setS, h]
@[simp] theorem w19f {s0 s1 s2 s3 s4 s5 s6 s7 s8 s9 s10 s11 s12 s13 s14 s15 s16 s17 s18 : Sl} {o : O} : dMove 19 (s0 :: s1 :: s2 :: s3 :: s4 :: s5 :: s6 :: s7 :: s8 :: s9 :: s10 :: s11 :: s12 :: s13 :: s14 :: s15 :: s16 :: s17 :: s18 :: .v o :: e) = .ok o (s0 :: s1 :: s2 :: s3 :: s4 :: s5 :: s6 :: s7 :: s8 :: s9 :: s10 :: s11 :: s12 :: s13 :: s14 :: s15 :: s16 :: s17 :: s18 :: .no :: e) := Eq.trans rfl rfl
@[simp] theorem w19g {s0 s1 s2 s3 s4 s5 s6 s7 s8 s9 s10 s11 s12 s13 s14 s15 s16 s17 s18 : Sl} {s : Sl} {o q : O} {as : List Ag} {qs : List (Option O)} (h : s.cont = none) : wb (s0 :: s1 :: s2 :: s3 :: s4 :: s5 :: s6 :: s7 :: s8 :: s9 :: s10 :: s11 :: s12 :: s13 :: s14 :: s15 :: s16 :: s17 :: s18 :: s :: e) ((o, some 19) :: as) (some q :: qs) = wb (s0 :: s1 :: s2 :: s3 :: s4 :: s5 :: s6 :: s7 :: s8 :: s9 :: s10 :: s11 :: s12 :: s13 :: s14 :: s15 :: s16 :: s17 :: s18 :: s.put q :: e) as qs := by simp [wb, h, putS, modS]
@[simp] theorem w19h {s0 s1 s2 s3 s4 s5 s6 s7 s8 s9 s10 s11 s12 s13 s14 s15 s16 s17 s18 : Sl} {s : Sl} {t : Sl} : List.set (s0 :: s1 :: s2 :: s3 :: s4 :: s5 :: s6 :: s7 :: s8 :: s9 :: s10 :: s11 :: s12 :: s13 :: s14 :: s15 :: s16 :: s17 :: s18 :: s :: e) 19 t = s0 :: s1 :: s2 :: s3 :: s4 :: s5 :: s6 :: s7 :: s8 :: s9 :: s10 :: s11 :: s12 :: s13 :: s14 :: s15 :: s16 :: s17 :: s18 :: t :: e := Eq.trans rfl rfl
@[simp] theorem w20a {s0 s1 s2 s3 s4 s5 s6 s7 s8 s9 s10 s11 s12 s13 s14 s15 s16 s17 s18 s19 : Sl} {s : Sl} : slot (s0 :: s1 :: s2 :: s3 :: s4 :: s5 :: s6 :: s7 :: s8 :: s9 :: s10 :: s11 :: s12 :: s13 :: s14 :: s15 :: s16 :: s17 :: s18 :: s19 :: s :: e) 20 = s.cont := Eq.trans rfl rfl
@[simp] theorem w20b {s0 s1 s2 s3 s4 s5 s6 s7 s8 s9 s10 s11 s12 s13 s14 s15 s16 s17 s18 s19 : Sl} {s : Sl} {o : O} : putS (s0 :: s1 :: s2 :: s3 :: s4 :: s5 :: s6 :: s7 :: s8 :: s9 :: s10 :: s11 :: s12 :: s13 :: s14 :: s15 :: s16 :: s17 :: s18 :: s19 :: s :: e) 20 o = s0 :: s1 :: s2 :: s3 :: s4 :: s5 :: s6 :: s7 :: s8 :: s9 :: s10 :: s11 :: s12 :: s13 :: s14 :: s15 :: s16 :: s17 :: s18 :: s19 :: s.put o :: e := Eq.trans rfl rfl
@[simp] theorem w20c {s0 s1 s2 s3 s4 s5 s6 s7 s8 s9 s10 s11 s12 s13 s14 s15 s16 s17 s18 s19 : Sl} {s : Sl} : lentS (s0 :: s1 :: s2 :: s3 :: s4 :: s5 :: s6 :: s7 :: s8 :: s9 :: s10 :: s11 :: s12 :: s13 :: s14 :: s15 :: s16 :: s17 :: s18 :: s19 :: s :: e) 20 = s0 :: s1 :: s2 :: s3 :: s4 :: s5 :: s6 :: s7 :: s8 :: s9 :: s10 :: s11 :: s12 :: s13 :: s14 :: s15 :: s16 :: s17 :: s18 :: s19 :: s.lent :: e := Eq.trans rfl rfl
@[simp] theorem w20d {s0 s1 s2 s3 s4 s5 s6 s7 s8 s9 s10 s11 s12 s13 s14 s15 s16 s17 s18 s19 : Sl} {o : O} : setS (s0 :: s1 :: s2 :: s3 :: s4 :: s5 :: s6 :: s7 :: s8 :: s9 :: s10 :: s11 :: s12 :: s13 :: s14 :: s15 :: s16 :: s17 :: s18 :: s19 :: .no :: e) 20 o = some (s0 :: s1 :: s2 :: s3 :: s4 :: s5 :: s6 :: s7 :: s8 :: s9 :: s10 :: s11 :: s12 :: s13 :: s14 :: s15 :: s16 :: s17 :: s18 :: s19 :: .v o :: e) := Eq.trans rfl rfl
@[simp] theorem w20e {s0 s1 s2 s3 s4 s5 s6 s7 s8 s9 s10 s11 s12 s13 s14 s15 s16 s17 s18 s19 : Sl} {o x : O} : setS (s0 :: s1 :: s2 :: s3 :: s4 :: s5 :: s6 :: s7 :: s8 :: s9 :: s10 :: s11 :: s12 :: s13 :: s14 :: s15 :: s16 :: s17 :: s18 :: s19 :: .v x :: e) 20 o = some (s0 :: s1 :: s2 :: s3 :: s4 :: s5 :: s6 :: s7 :: s8 :: s9 :: s10 :: s11 :: s12 :: s13 :: s14 :: s15 :: s16 :: s17 :: s18 :: s19 :: .v o :: e) := Eq.trans rfl rfl
@[simp] theorem w20i {s0 s1 s2 s3 s4 s5 s6 s7 s8 s9 s10 s11 s12 s13 s14 s15 s16 s17 s18 s19 : Sl} {s : Sl} {o : O} (h : s.pinned = false) : setS (s0 :: s1 :: s2 :: s3 :: s4 :: s5 :: s6 :: s7 :: s8 :: s9 :: s10 :: s11 :: s12 :: s13 :: s14 :: s15 :: s16 :: s17 :: s18 :: s19 :: s :: e) 20 o = some (s0 :: s1 :: s2 :: s3 :: s4 :: s5 :: s6 :: s7 :: s8 :: s9 :: s10 :: s11 :: s12 :: s13 :: s14 :: s15 :: s16 :: s17 :: s18 :: s19 :: .v o :: e) := by simp [setS, h]
@[simp] theorem w20f {s0 s1 s2 s3 s4 s5 s6 s7 s8 s9 s10 s11 s12 s13 s14 s15 s16 s17 s18 s19 : Sl} {o : O} : dMove 20 (s0 :: s1 :: s2 :: s3 :: s4 :: s5 :: s6 :: s7 :: s8 :: s9 :: s10 :: s11 :: s12 :: s13 :: s14 :: s15 :: s16 :: s17 :: s18 :: s19 :: .v o :: e) = .ok o (s0 :: s1 :: s2 :: s3 :: s4 :: s5 :: s6 :: s7 :: s8 :: s9 :: s10 :: s11 :: s12 :: s13 :: s14 :: s15 :: s16 :: s17 :: s18 :: s19 :: .no :: e) := Eq.trans rfl rfl
@[simp] theorem w20g {s0 s1 s2 s3 s4 s5 s6 s7 s8 s9 s10 s11 s12 s13 s14 s15 s16 s17 s18 s19 : Sl} {s : Sl} {o q : O} {as : List Ag} {qs : List (Option O)} (h : s.cont = none) : wb (s0 :: s1 :: s2 :: s3 :: s4 :: s5 :: s6 :: s7 :: s8 :: s9 :: s10 :: s11 :: s12 :: s13 :: s14 :: s15 :: s16 :: s17 :: s18 :: s19 :: s :: e) ((o, some 20) :: as) (some q :: qs) = wb (s0 :: s1 :: s2 :: s3 :: s4 :: s5 :: s6 :: s7 :: s8 :: s9 :: s10 :: s11 :: s12 :: s13 :: s14 :: s15 :: s16 :: s17 :: s18 :: s19 :: s.put q :: e) as qs := by simp [wb, h, putS, modS]
@[simp] theorem w20h {s0 s1 s2 s3 s4 s5 s6 s7 s8 s9 s10 s11 s12 s13 s14 s15 s16 s17 s18 s19 : Sl} {s : Sl} {t : Sl} : List.set (s0 :: s1 :: s2 :: s3 :: s4 :: s5 :: s6 :: s7 :: s8 :: s9 :: s10 :: s11 :: s12 :: s13 :: s14 :: s15 :: s16 :: s17 :: s18 :: s19 :: s :: e) 20 t = s0 :: s1 :: s2 :: s3 :: s4 :: s5 :: s6 :: s7 :: s8 :: s9 :: s10 :: s11 :: s12 :: s13 :: s14 :: s15 :: s16 :: s17 :: s18 :: s19 :: t :: e := Eq.trans rfl rfl
@[simp] theorem w21a {s0 s1 s2 s3 s4 s5 s6 s7 s8 s9 s10 s11 s12 s13 s14 s15 s16 s17 s18 s19 s20 : Sl} {s : Sl} : slot (s0 :: s1 :: s2 :: s3 :: s4 :: s5 :: s6 :: s7 :: s8 :: s9 :: s10 :: s11 :: s12 :: s13 :: s14 :: s15 :: s16 :: s17 :: s18 :: s19 :: s20 :: s :: e) 21 = s.cont := Eq.trans rfl rfl
@[simp] theorem w21b {s0 s1 s2 s3 s4 s5 s6 s7 s8 s9 s10 s11 s12 s13 s14 s15 s16 s17 s18 s19 s20 : Sl} {s : Sl} {o : O} : putS (s0 :: s1 :: s2 :: s3 :: s4 :: s5 :: s6 :: s7 :: s8 :: s9 :: s10 :: s11 :: s12 :: s13 :: s14 :: s15 :: s16 :: s17 :: s18 :: s19 :: s20 :: s :: e) 21 o = s0 :: s1 :: s2 :: s3 :: s4 :: s5 :: s6 :: s7 :: s8 :: s9 :: s10 :: s11 :: s12 :: s13 :: s14 :: s15 :: s16 :: s17 :: s18 :: s19 :: s20 :: s.put o :: e := Eq.trans rfl rfl
@[simp] theorem w21c {s0 s1 s2 s3 s4 s5 s6 s7 s8 s9 s10 s11 s12 s13 s14 s15 s16 s17 s18 s19 s20 : Sl} {s : Sl} : lentS (s0 :: s1 :: s2 :: s3 :: s4 :: s5 :: s6 :: s7 :: s8 :: s9 :: s10 :: s11 :: s12 :: s13 :: s14 :: s15 :: s16 :: s17 :: s18 :: s19 :: s20 :: s :: e) 21 = s0 :: s1 :: s2 :: s3 :: s4 :: s5 :: s6 :: s7 :: s8 :: s9 :: s10 :: s11 :: s12 :: s13 :: s14 :: s15 :: s16 :: s17 :: s18 :: s19 :: s20 :: s.lent :: e := Eq.trans rfl rfl
@[simp] theorem w21d {s0 s1 s2 s3 s4 s5 s6 s7 s8 s9 s10 s11 s12 s13 s14 s15 s16 s17 s18 s19 s20 : Sl} {o : O} : setS (s0 :: s1 :: s2 :: s3 :: s4 :: s5 :: s6 :: s7 :: s8 :: s9 :: s10 :: s11 :: s12 :: s13 :: s14 :: s15 :: s16 :: s17 :: s18 :: s19 :: s20 :: .no :: e) 21 o = some (s0 :: s1 :: s2 :: s3 :: s4 :: s5 :: s6 :: s7 :: s8 :: s9 :: s10 :: s11 :: s12 :: s13 :: s14 :: s15 :: s16 :: s17 :: s18 :: s19 :: s20 :: .v o :: e) := Eq.trans rfl rfl
@[simp] theorem w21e {s0 s1 s2 s3 s4 s5 s6 s7 s8 s9 s10 s11 s12 s13 s14 s15 s16 s17 s18 s19 s20 : Sl} {o x : O} : setS (s0 :: s1 :: s2 :: s3 :: s4 :: s5 :: s6 :: s7 :: s8 :: s9 :: s10 :: s11 :: s12 :: s13 :: s14 :: s15 :: s16 :: s17 :: s18 :: s19 :: s20 :: .v x :: e) 21 o = some (s0 :: s1 :: s2 :: s3 :: s4 :: s5 :: s6 :: s7 :: s8 :: s9 :: s10 :: s11 :: s12 :: s13 :: s14 :: s15 :: s16 :: s17 :: s18 :: s19 :: s20 :: .v o :: e) := Eq.trans rfl rfl
@[simp] theorem w21i {s0 s1 s2 s3 s4 s5 s6 s7 s8 s9 s10 s11 s12 s13 s14 s15 s16 s17 s18 s19 s20 : Sl} {s : Sl} {o : O} (h : s.pinned = false) : setS (s0 :: s1 :: s2 :: s3 :: s4 :: s5 :: s6 :: s7 :: s8 :: s9 :: s10 :: s11 :: s12 :: s13 :: s14 :: s15 :: s16 :: s17 :: s18 :: s19 :: s20 :: s :: e) 21 o = some (s0 :: s1 :: s2 :: s3 :: s4 :: s5 :: s6 :: s7 :: s8 :: s9 :: s10 :: s11 :: s12 :: s13 :: s14 :: s15 :: s16 :: s17 :: s18 :: s19 :: s20 :: .v o :: e) := by simp [setS, h]
@[simp] theorem w21f {s0 s1 s2 s3 s4 s5 s6 s7 s8 s9 s10 s11 s12 s13 s14 s15 s16 s17 s18 s19 s20 : Sl} {o : O} : dMove 21 (s0 :: s1 :: s2 :: s3 :: s4 :: s5 :: s6 :: s7 :: s8 :: s9 :: s10 :: s11 :: s12 :: s13 :: s14 :: s15 :: s16 :: s17 :: s18 :: s19 :: s20 :: .v o :: e) = .ok o (s0 :: s1 :: s2 :: s3 :: s4 :: s5 :: s6 :: s7 :: s8 :: s9 :: s10 :: s11 :: s12 :: s13 :: s14 :: s15 :: s16 :: s17 :: s18 :: s19 :: s20 :: .no :: e) := Eq.trans rfl rfl
@[simp] theorem w21g {s0 s1 s2 s3 s4 s5 s6 s7 s8 s9 s10 s11 s12 s13 s14 s15 s16 s17 s18 s19 s20 : Sl} {s : Sl} {o q : O} {as : List Ag} {qs : List (Option O)} (h : s.cont = none) : wb (s0 :: s1 :: s2 :: s3 :: s4 :: s5 :: s6 :: s7 :: s8 :: s9 :: s10 :: s11 :: s12 :: s13 :: s14 :: s15 :: s16 :: s17 :: s18 :: s19 :: s20 :: s :: e) ((o, some 21) :: as) (some q :: qs) = wb (s0 :: s1 :: s2 :: s3 :: s4 :: s5 :: s6 :: s7 :: s8 :: s9 :: s10 :: s11 :: s12 :: s13 :: s14 :: s15 :: s16 :: s17 :: s18 :: s19 :: s20 :: s.put q :: e) as qs := by simp [wb, h, putS, modS]
@[simp] theorem w21h {s0 s1 s2 s3 s4 s5 s6 s7 s8 s9 s10 s11 s12 s13 s14 s15 s16 s17 s18 s19 s20 : Sl} {s : Sl} {t : Sl} : List.set (s0 :: s1 :: s2 :: s3 :: s4 :: s5 :: s6 :: s7 :: s8 :: s9 :: s10 :: s11 :: s12 :: s13 :: s14 :: s15 :: s16 :: s17 :: s18 :: s19 :: s20 :: s :: e) 21 t = s0 :: s1 :: s2 :: s3 :: s4 :: s5 :: s6 :: s7 :: s8 :: s9 :: s10 :: s11 :: s12 :: s13 :: s14 :: s15 :: s16 :: s17 :: s18 :: s19 :: s20 :: t :: e := Eq.trans rfl rfl
@[simp] theorem w22a {s0 s1 s2 s3 s4 s5 s6 s7 s8 s9 s10 s11 s12 s13 s14 s15 s16 s17 s18 s19 s20 s21 : Sl} {s : Sl} : slot (s0 :: s1 :: s2 :: s3 :: s4 :: s5 :: s6 :: s7 :: s8 :: s9 :: s10 :: s11 :: s12 :: s13 :: s14 :: s15 :: s16 :: s17 :: s18 :: s19 :: s20 :: s21 :: s :: e) 22 = s.cont := Eq.trans rfl rfl
@[simp] theorem w22b {s0 s1 s2 s3 s4 s5 s6 s7 s8 s9 s10 s11 s12 s13 s14 s15 s16 s17 s18 s19 s20 s21 : Sl} {s : Sl} {o : O} : putS (s0 :: s1 :: s2 :: s3 :: s4 :: s5 :: s6 :: s7 :: s8 :: s9 :: s10 :: s11 :: s12 :: s13 :: s14 :: s15 :: s16 :: s17 :: s18 :: s19 :: s20 :: s21 :: s :: e) 22 o = s0 :: s1 :: s2 :: s3 :: s4 :: s5 :: s6 :: s7 :: s8 :: s9 :: s10 :: s11 :: s12 :: s13 :: s14 :: s15 :: s16 :: s17 :: s18 :: s19 :: s20 :: s21 :: s.put o :: e := Eq.trans rfl rfl
@[simp] theorem w22c {s0 s1 s2 s3 s4 s5 s6 s7 s8 s9 s10 s11 s12 s13 s14 s15 s16 s17 s18 s19 s20 s21 : Sl} {s : Sl} : lentS (s0 :: s1 :: s2 :: s3 :: s4 :: s5 :: s6 :: s7 :: s8 :: s9 :: s10 :: s11 :: s12 :: s13 :: s14 :: s15 :: s16 :: s17 :: s18 :: s19 :: s20 :: s21 :: s :: e) 22 = s0 :: s1 :: s2 :: s3 :: s4 :: s5 :: s6 :: s7 :: s8 :: s9 :: s10 :: s11 :: s12 :: s13 :: s14 :: s15 :: s16 :: s17 :: s18 :: s19 :: s20 :: s21 :: s.lent :: e := Eq.trans rfl rfl
@[simp] theorem w22d {s0 s1 s2 s3 s4 s5 s6 s7 s8 s9 s10 s11 s12 s13 s14 s15 s16 s17 s18 s19 s20 s21 : Sl} {o : O} : setS (s0 :: s1 :: s2 :: s3 :: s4 :: s5 :: s6 :: s7 :: s8 :: s9 :: s10 :: s11 :: s12 :: s13 :: s14 :: s15 :: s16 :: s17 :: s18 :: s19 :: s20 :: s21 :: .no :: e) 22 o = some (s0 :: s1 :: s2 :: s3 :: s4 :: s5 :: s6 :: s7 :: s8 :: s9 :: s10 :: s11 :: s12 :: s13 :: s14 :: s15 :: s16 :: s17 :: s18 :: s19 :: s20 :: s21 :: .v o :: e) := Eq.trans rfl rfl
@[simp] theorem w22e {s0 s1 s2 s3 s4 s5 s6 s7 s8 s9 s10 s11 s12 s13 s14 s15 s16 s17 s18 s19 s20 s21 : Sl} {o x : O} : setS (s0 :: s1 :: s2 :: s3 :: s4 :: s5 :: s6 :: s7 :: s8 :: s9 :: s10 :: s11 :: s12 :: s13 :: s14 :: s15 :: s16 :: s17 :: s18 :: s19 :: s20 :: s21 :: .v x :: e) 22 o = some (s0 :: s1 :: s2 :: s3 :: s4 :: s5 :: s6 :: s7 :: s8 :: s9 :: s10 :: s11 :: s12 :: s13 :: s14 :: s15 :: s16 :: s17 :: s18 :: s19 :: s20 :: s21 :: .v o :: e) := Eq.trans rfl rfl
@[simp] theorem w22i {s0 s1 s2 s3 s4 s5 s6 s7 s8 s9 s10 s11 s12 s13 s14 s15 s16 s17 s18 s19 s20 s21 : Sl} {s : Sl} {o : O} (h : s.pinned = false) : setS (s0 :: s1 :: s2 :: s3 :: s4 :: s5 :: s6 :: s7 :: s8 :: s9 :: s10 :: s11 :: s12 :: s13 :: s14 :: s15 :: s16 :: s17 :: s18 :: s19 :: s20 :: s21 :: s :: e) 22 o = some (s0 :: s1 :: s2 :: s3 :: s4 :: s5 :: s6 :: s7 :: s8 :: s9 :: s10 :: s11 :: s12 :: s13 :: s14 :: s15 :: s16 :: s17 :: s18 :: s19 :: s20 :: s21 :: .v o :: e) := by simp [setS, h]
@[simp] theorem w22f {s0 s1 s2 s3 s4 s5 s6 s7 s8 s9 s10 s11 s12 s13 s14 s15 s16 s17 s18 s19 s20 s21 : Sl} {o : O} : dMove 22 (s0 :: s1 :: s2 :: s3 :: s4 :: s5 :: s6 :: s7 :: s8 :: s9 :: s10 :: s11 :: s12 :: s13 :: s14 :: s15 :: s16 :: s17 :: s18 :: s19 :: s20 :: s21 :: .v o :: e) = .ok o (s0 :: s1 :: s2 :: s3 :: s4 :: s5 :: s6 :: s7 :: s8 :: s9 :: s10 :: s11 :: s12 :: s13 :: s14 :: s15 :: s16 :: s17 :: s18 :: s19 :: s20 :: s21 :: .no :: e) := Eq.trans rfl rfl
@[simp] theorem w22g {s0 s1 s2 s3 s4 s5 s6 s7 s8 s9 s10 s11 s12 s13 s14 s15 s16 s17 s18 s19 s20 s21 : Sl} {s : Sl} {o q : O} {as : List Ag} {qs : List (Option O)} (h : s.cont = none) : wb (s0 :: s1 :: s2 :: s3 :: s4 :: s5 :: s6 :: s7 :: s8 :: s9 :: s10 :: s11 :: s12 :: s13 :: s14 :: s15 :: s16 :: s17 :: s18 :: s19 :: s20 :: s21 :: s :: e) ((o, some 22) :: as) (some q :: qs) = wb (s0 :: s1 :: s2 :: s3 :: s4 :: s5 :: s6 :: s7 :: s8 :: s9 :: s10 :: s11 :: s12 :: s13 :: s14 :: s15 :: s16 :: s17 :: s18 :: s19 :: s20 :: s21 :: s.put q :: e) as qs := by simp [wb, h, putS, modS]
@[simp] theorem w22h {s0 s1 s2 s3 s4 s5 s6 s7 s8 s9 s10 s11 s12 s13 s14 s15 s16 s17 s18 s19 s20 s21 : Sl} {s : Sl} {t : Sl} : List.set (s0 :: s1 :: s2 :: s3 :: s4 :: s5 :: s6 :: s7 :: s8 :: s9 :: s10 :: s11 :: s12 :: s13 :: s14 :: s15 :: s16 :: s17 :: s18 :: s19 :: s20 :: s21 :: s :: e) 22 t = s0 :: s1 :: s2 :: s3 :: s4 :: s5 :: s6 :: s7 :: s8 :: s9 :: s10 :: s11 :: s12 :: s13 :: s14 :: s15 :: s16 :: s17 :: s18 :: s19 :: s20 :: s21 :: t :: e := Eq.trans rfl rfl
@[simp] theorem w23a {s0 s1 s2 s3 s4 s5 s6 s7 s8 s9 s10 s11 s12 s13 s14 s15 s16 s17 s18 s19 s20 s21 s22 : Sl} {s : Sl} : slot (s0 :: s1 :: s2 :: s3 :: s4 :: s5 :: s6 :: s7 :: s8 :: s9 :: s10 :: s11 :: s12 :: s13 :: s14 :: s15 :: s16 :: s17 :: s18 :: s19 :: s20 :: s21 :: s22 :: s :: e) 23 = s.cont := Eq.trans rfl rfl
@[simp] theorem w23b {s0 s1 s2 s3 s4 s5 s6 s7 s8 s9 s10 s11 s12 s13 s14 s15 s16 s17 s18 s19 s20 s21 s22 : Sl} {s : Sl} {o : O} : putS (s0 :: s1 :: s2 :: s3 :: s4 :: s5 :: s6 :: s7 :: s8 :: s9 :: s10 :: s11 :: s12 :: s13 :: s14 :: s15 :: s16 :: s17 :: s18 :: s19 :: s20 :: s21 :: s22 :: s :: e) 23 o = s0 :: s1 :: s2 :: s3 :: s4 :: s5 :: s6 :: s7 :: s8 :: s9 :: s10 :: s11 :: s12 :: s13 :: s14 :: s15 :: s16 :: s17 :: s18 :: s19 :: s20 :: s21 :: s22 :: s.put o :: e := Eq.trans rfl rfl
@[simp] theorem w23c {s0 s1 s2 s3 s4 s5 s6 s7 s8 s9 s10 s11 s12 s13 s14 s15 s16 s17 s18 s19 s20 s21 s22 : Sl} {s : Sl} : lentS (s0 :: s1 :: s2 :: s3 :: s4 :: s5 :: s6 :: s7 :: s8 :: s9 :: s10 :: s11 :: s12 :: s13 :: s14 :: s15 :: s16 :: s17 :: s18 :: s19 :: s20 :: s21 :: s22 :: s :: e) 23 = s0 :: s1 :: s2 :: s3 :: s4 :: s5 :: s6 :: s7 :: s8 :: s9 :: s10 :: s11 :: s12 :: s13 :: s14 :: s15 :: s16 :: s17 :: s18 :: s19 :: s20 :: s21 :: s22 :: s.lent :: e := Eq.trans rfl rfl
@[simp] theorem w23d {s0 s1 s2 s3 s4 s5 s6 s7 s8 s9 s10 s11 s12 s13 s14 s15 s16 s17 s18 s19 s20 s21 s22 : Sl} {o : O} : setS (s0 :: s1 :: s2 :: s3 :: s4 :: s5 :: s6 :: s7 :: s8 :: s9 :: s10 :: s11 :: s12 :: s13 :: s14 :: s15 :: s16 :: s17 :: s18 :: s19 :: s20 :: s21 :: s22 :: .no :: e) 23 o = some (s0 :: s1 :: s2 :: s3 :: s4 :: s5 :: s6 :: s7 :: s8 :: s9 :: s10 :: s11 :: s12 :: s13 :: s14 :: s15 :: s16 :: s17 :: s18 :: s19 :: s20 :: s21 :: s22 :: .v o :: e) := Eq.trans rfl rfl
@[simp] theorem w23e {s0 s1 s2 s3 s4 s5 s6 s7 s8 s9 s10 s11 s12 s13 s14 s15 s16 s17 s18 s19 s20 s21 s22 : Sl} {o x : O} : setS (s0 :: s1 :: s2 :: s3 :: s4 :: s5 :: s6 :: s7 :: s8 :: s9 :: s10 :: s11 :: s12 :: s13 :: s14 :: s15 :: s16 :: s17 :: s18 :: s19 :: s20 :: s21 :: s22 :: .v x :: e) 23 o = some (s0 :: s1 :: s2 :: s3 :: s4 :: s5 :: s6 :: s7 :: s8 :: s9 :: s10 :: s11 :: s12 :: s13 :: s14 :: s15 :: s16 :: s17 :: s18 :: s19 :: s20 :: s21 :: s22 :: .v o :: e) := Eq.trans rfl rfl
@[simp] theorem w23i {s0 s1 s2 s3 s4 s5 s6 s7 s8 s9 s10 s11 s12 s13 s14 s15 s16 s17 s18 s19 s20 s21 s22 : Sl} {s : Sl} {o : O} (h : s.pinned = false) : setS (s0 :: s1 :: s2 :: s3 :: s4 :: s5 :: s6 :: s7 :: s8 :: s9 :: s10 :: s11 :: s12 :: s13 :: s14 :: s15 :: s16 :: s17 :: s18 :: s19 :: s20 :: s21 :: s22 :: s :: e) 23 o = some (s0 :: s1 :: s2 :: s3 :: s4 :: s5 :: s6 :: s7 :: s8 :: s9 :: s10 :: s11 :: s12 :: s13 :: s14 :: s15 :: s16 :: s17 :: s18 :: s19 :: s20 :: s21 :: s22 :: .v o :: e) := by simp [setS, h]
@[simp] theorem w23f {s0 s1 s2 s3 s4 s5 s6 s7 s8 s9 s10 s11 s12 s13 s14 s15 s16 s17 s18 s19 s20 s21 s22 : Sl} {o : O} : dMove 23 (s0 :: s1 :: s2 :: s3 :: s4 :: s5 :: s6 :: s7 :: s8 :: s9 :: s10 :: s11 :: s12 :: s13 :: s14 :: s15 :: s16 :: s17 :: s18 :: s19 :: s20 :: s21 :: s22 :: .v o :: e) = .ok o (s0 :: s1 :: s2 :: s3 :: s4 :: s5 :: s6 :: s7 :: s8 :: s9 :: s10 :: s11 :: s12 :: s13 :: s14 :: s15 :: s16 :: s17 :: s18 :: s19 :: s20 :: s21 :: s22 :: .no :: e) := Eq.trans rfl rfl
@[simp] theorem w23g {s0 s1 s2 s3 s4 s5 s6 s7 s8 s9 s10 s11 s12 s13 s14 s15 s16 s17 s18 s19 s20 s21 s22 : Sl} {s : Sl} {o q : O} {as : List Ag} {qs : List (Option O)} (h : s.cont = none) : wb (s0 :: s1 :: s2 :: s3 :: s4 :: s5 :: s6 :: s7 :: s8 :: s9 :: s10 :: s11 :: s12 :: s13 :: s14 :: s15 :: s16 :: s17 :: s18 :: s19 :: s20 :: s21 :: s22 :: s :: e) ((o, some 23) :: as) (some q :: qs) = wb (s0 :: s1 :: s2 :: s3 :: s4 :: s5 :: s6 :: s7 :: s8 :: s9 :: s10 :: s11 :: s12 :: s13 :: s14 :: s15 :: s16 :: s17 :: s18 :: s19 :: s20 :: s21 :: s22 :: s.put q :: e) as qs := by simp [wb, h, putS, modS]
@[simp] theorem w23h {s0 s1 s2 s3 s4 s5 s6 s7 s8 s9 s10 s11 s12 s13 s14 s15 s16 s17 s18 s19 s20 s21 s22 : Sl} {s : Sl} {t : Sl} : List.set (s0 :: s1 :: s2 :: s3 :: s4 :: s5 :: s6 :: s7 :: s8 :: s9 :: s10 :: s11 :: s12 :: s13 :: s14 :: s15 :: s16 :: s17 :: s18 :: s19 :: s20 :: s21 :: s22 :: s :: e) 23 t = s0 :: s1 :: s2 :: s3 :: s4 :: s5 :: s6 :: s7 :: s8 :: s9 :: s10 :: s11 :: s12 :: s13 :: s14 :: s15 :: s16 :: s17 :: s18 :: s19 :: s20 :: s21 :: s22 :: t :: e := Eq.trans rfl rfl
@[simp] theorem w24a {s0 s1 s2 s3 s4 s5 s6 s7 s8 s9 s10 s11 s12 s13 s14 s15 s16 s17 s18 s19 s20 s21 s22 s23 : Sl} {s : Sl} : slot (s0 :: s1 :: s2 :: s3 :: s4 :: s5 :: s6 :: s7 :: s8 :: s9 :: s10 :: s11 :: s12 :: s13 :: s14 :: s15 :: s16 :: s17 :: s18 :: s19 :: s20 :: s21 :: s22 :: s23 :: s :: e) 24 = s.cont := Eq.trans rfl rfl
@[simp] theorem w24b {s0 s1 s2 s3 s4 s5 s6 s7 s8 s9 s10 s11 s12 s13 s14 s15 s16 s17 s18 s19 s20 s21 s22 s23 : Sl} {s : Sl} {o : O} : putS (s0 :: s1 :: s2 :: s3 :: s4 :: s5 :: s6 :: s7 :: s8 :: s9 :: s10 :: s11 :: s12 :: s13 :: s14 :: s15 :: s16 :: s17 :: s18 :: s19 :: s20 :: s21 :: s22 :: s23 :: s :: e) 24 o = s0 :: s1 :: s2 :: s3 :: s4 :: s5 :: s6 :: s7 :: s8 :: s9 :: s10 :: s11 :: s12 :: s13 :: s14 :: s15 :: s16 :: s17 :: s18 :: s19 :: s20 :: s21 :: s22 :: s23 :: s.put o :: e := Eq.trans rfl rfl
@[simp] theorem w24c {s0 s1 s2 s3 s4 s5 s6 s7 s8 s9 s10 s11 s12 s13 s14 s15 s16 s17 s18 s19 s20 s21 s22 s23 : Sl} {s : Sl} : lentS (s0 :: s1 :: s2 :: s3 :: s4 :: s5 :: s6 :: s7 :: s8 :: s9 :: s10 :: s11 :: s12 :: s13 :: s14 :: s15 :: s16 :: s17 :: s18 :: s19 :: s20 :: s21 :: s22 :: s23 :: s :: e) 24 = s0 :: s1 :: s2 :: s3 :: s4 :: s5 :: s6 :: s7 :: s8 :: s9 :: s10 :: s11 :: s12 :: s13 :: s14 :: s15 :: s16 :: s17 :: s18 :: s19 :: s20 :: s21 :: s22 :: s23 :: s.lent :: e := Eq.trans rfl rfl
@[simp] theorem w24d {s0 s1 s2 s3 s4 s5 s6 s7 s8 s9 s10 s11 s12 s13 s14 s15 s16 s17 s18 s19 s20 s21 s22 s23 : Sl} {o : O} : setS (s0 :: s1 :: s2 :: s3 :: s4 :: s5 :: s6 :: s7 :: s8 :: s9 :: s10 :: s11 :: s12 :: s13 :: s14 :: s15 :: s16 :: s17 :: s18 :: s19 :: s20 :: s21 :: s22 :: s23 :: .no :: e) 24 o = some (s0 :: s1 :: s2 :: s3 :: s4 :: s5 :: s6 :: s7 :: s8 :: s9 :: s10 :: s11 :: s12 :: s13 :: s14 :: s15 :: s16 :: s17 :: s18 :: s19 :: s20 :: s21 :: s22 :: s23 :: .v o :: e) := Eq.trans rfl rfl
@[simp] theorem w24e {s0 s1 s2 s3 s4 s5 s6 s7 s8 s9 s10 s11 s12 s13 s14 s15 s16 s17 s18 s19 s20 s21 s22 s23 : Sl} {o x : O} : setS (s0 :: s1 :: s2 :: s3 :: s4 :: s5 :: s6 :: s7 :: s8 :: s9 :: s10 :: s11 :: s12 :: s13 :: s14 :: s15 :: s16 :: s17 :: s18 :: s19 :: s20 :: s21 :: s22 :: s23 :: .v x :: e) 24 o = some (s0 :: s1 :: s2 :: s3 :: s4 :: s5 :: s6 :: s7 :: s8 :: s9 :: s10 :: s11 :: s12 :: s13 :: s14 :: s15 :: s16 :: s17 :: s18 :: s19 :: s20 :: s21 :: s22 :: s23 :: .v o :: e) := Eq.trans rfl rfl
@[simp] theorem w24i {s0 s1 s2 s3 s4 s5 s6 s7 s8 s9 s10 s11 s12 s13 s14 s15 s16 s17 s18 s19 s20 s21 s22 s23 : Sl} {s : Sl} {o : O} (h : s.pinned = false) : setS (s0 :: s1 :: s2 :: s3 :: s4 :: s5 :: s6 :: s7 :: s8 :: s9 :: s10 :: s11 :: s12 :: s13 :: s14 :: s15 :: s16 :: s17 :: s18 :: s19 :: s20 :: s21 :: s22 :: s23 :: s :: e) 24 o = some (s0 :: s1 :: s2 :: s3 :: s4 :: s5 :: s6 :: s7 :: s8 :: s9 :: s10 :: s11 :: s12 :: s13 :: s14 :: s15 :: s16 :: s17 :: s18 :: s19 :: s20 :: s21 :: s22 :: s23 :: .v o :: e) := by simp [setS, h]
@[simp] theorem w24f {s0 s1 s2 s3 s4 s5 s6 s7 s8 s9 s10 s11 s12 s13 s14 s15 s16 s17 s18 s19 s20 s21 s22 s23 : Sl} {o : O} : dMove 24 (s0 :: s1 :: s2 :: s3 :: s4 :: s5 :: s6 :: s7 :: s8 :: s9 :: s10 :: s11 :: s12 :: s13 :: s14 :: s15 :: s16 :: s17 :: s18 :: s19 :: s20 :: s21 :: s22 :: s23 :: .v o :: e) = .ok o (s0 :: s1 :: s2 :: s3 :: s4 :: s5 :: s6 :: s7 :: s8 :: s9 :: s10 :: s11 :: s12 :: s13 :: s14 :: s15 :: s16 :: s17 :: s18 :: s19 :: s20 :: s21 :: s22 :: s23 :: .no :: e) := Eq.trans rfl rfl
@[simp] theorem w24g {s0 s1 s2 s3 s4 s5 s6 s7 s8 s9 s10 s11 s12 s13 s14 s15 s16 s17 s18 s19 s20 s21 s22 s23 : Sl} {s : Sl} {o q : O} {as : List Ag} {qs : List (Option O)} (h : s.cont = none) : wb (s0 :: s1 :: s2 :: s3 :: s4 :: s5 :: s6 :: s7 :: s8 :: s9 :: s10 :: s11 :: s12 :: s13 :: s14 :: s15 :: s16 :: s17 :: s18 :: s19 :: s20 :: s21 :: s22 :: s23 :: s :: e) ((o, some 24) :: as) (some q :: qs) = wb (s0 :: s1 :: s2 :: s3 :: s4 :: s5 :: s6 :: s7 :: s8 :: s9 :: s10 :: s11 :: s12 :: s13 :: s14 :: s15 :: s16 :: s17 :: s18 :: s19 :: s20 :: s21 :: s22 :: s23 :: s.put q :: e) as qs := by simp [wb, h, putS, modS]
@[simp] theorem w24h {s0 s1 s2 s3 s4 s5 s6 s7 s8 s9 s10 s11 s12 s13 s14 s15 s16 s17 s18 s19 s20 s21 s22 s23 : Sl} {s : Sl} {t : Sl} : List.set (s0 :: s1 :: s2 :: s3 :: s4 :: s5 :: s6 :: s7 :: s8 :: s9 :: s10 :: s11 :: s12 :: s13 :: s14 :: s15 :: s16 :: s17 :: s18 :: s19 :: s20 :: s21 :: s22 :: s23 :: s :: e) 24 t = s0 :: s1 :: s2 :: s3 :: s4 :: s5 :: s6 :: s7 :: s8 :: s9 :: s10 :: s11 :: s12 :: s13 :: s14 :: s15 :: s16 :: s17 :: s18 :: s19 :: s20 :: s21 :: s22 :: s23 :: t :: e := Eq.trans rfl rfl
@[simp] theorem w25a {s0 s1 s2 s3 s4 s5 s6 s7 s8 s9 s10 s11 s12 s13 s14 s15 s16 s17 s18 s19 s20 s21 s22 s23 s24 : Sl} {s : Sl} : slot (s0 :: s1 :: s2 :: s3 :: s4 :: s5 :: s6 :: s7 :: s8 :: s9 :: s10 :: s11 :: s12 :: s13 :: s14 :: s15 :: s16 :: s17 :: s18 :: s19 :: s20 :: s21 :: s22 :: s23 :: s24 :: s :: e) 25 = s.cont := Eq.trans rfl rfl
@[simp] theorem w25b {s0 s1 s2 s3 s4 s5 s6 s7 s8 s9 s10 s11 s12 s13 s14 s15 s16 s17 s18 s19 s20 s21 s22 s23 s24 : Sl} {s : Sl} {o : O} : putS (s0 :: s1 :: s2 :: s3 :: s4 :: s5 :: s6 :: s7 :: s8 :: s9 :: s10 :: s11 :: s12 :: s13 :: s14 :: s15 :: s16 :: s17 :: s18 :: s19 :: s20 :: s21 :: s22 :: s23 :: s24 :: s :: e) 25 o = s0 :: s1 :: s2 :: s3 :: s4 :: s5 :: s6 :: s7 :: s8 :: s9 :: s10 :: s11 :: s12 :: s13 :: s14 :: s15 :: s16 :: s17 :: s18 :: s19 :: s20 :: s21 :: s22 :: s23 :: s24 :: s.put o :: e := Eq.trans rfl rfl
@[simp] theorem w25c {s0 s1 s2 s3 s4 s5 s6 s7 s8 s9 s10 s11 s12 s13 s14 s15 s16 s17 s18 s19 s20 s21 s22 s23 s24 : Sl} {s : Sl} : lentS (s0 :: s1 :: s2 :: s3 :: s4 :: s5 :: s6 :: s7 :: s8 :: s9 :: s10 :: s11 :: s12 :: s13 :: s14 :: s15 :: s16 :: s17 :: s18 :: s19 :: s20 :: s21 :: s22 :: s23 :: s24 :: s :: e) 25 = s0 :: s1 :: s2 :: s3 :: s4 :: s5 :: s6 :: s7 :: s8 :: s9 :: s10 :: s11 :: s12 :: s13 :: s14 :: s15 :: s16 :: s17 :: s18 :: s19 :: s20 :: s21 :: s22 :: s23 :: s24 :: s.lent :: e := Eq.trans rfl rfl
@[simp] theorem w25d {s0 s1 s2 s3 s4 s5 s6 s7 s8 s9 s10 s11 s12 s13 s14 s15 s16 s17 s18 s19 s20 s21 s22 s23 s24 : Sl} {o : O} : setS (s0 :: s1 :: s2 :: s3 :: s4 :: s5 :: s6 :: s7 :: s8 :: s9 :: s10 :: s11 :: s12 :: s13 :: s14 :: s15 :: s16 :: s17 :: s18 :: s19 :: s20 :: s21 :: s22 :: s23 :: s24 :: .no :: e) 25 o = some (s0 :: s1 :: s2 :: s3 :: s4 :: s5 :: s6 :: s7 :: s8 :: s9 :: s10 :: s11 :: s12 :: s13 :: s14 :: s15 :: s16 :: s17 :: s18 :: s19 :: s20 :: s21 :: s22 :: s23 :: s24 :: .v o :: e) := Eq.trans rfl rfl
@[simp] theorem w25e {s0 s1 s2 s3 s4 s5 s6 s7 s8 s9 s10 s11 s12 s13 s14 s15 s16 s17 s18 s19 s20 s21 s22 s23 s24 : Sl} {o x : O} : setS (s0 :: s1 :: s2 :: s3 :: s4 :: s5 :: s6 :: s7 :: s8 :: s9 :: s10 :: s11 :: s12 :: s13 :: s14 :: s15 :: s16 :: s17 :: s18 :: s19 :: s20 :: s21 :: s22 :: s23 :: s24 :: .v x :: e) 25 o = some (s0 :: s1 :: s2 :: s3 :: s4 :: s5 :: s6 :: s7 :: s8 :: s9 :: s10 :: s11 :: s12 :: s13 :: s14 :: s15 :: s16 :: s17 :: s18 :: s19 :: s20 :: s21 :: s22 :: s23 :: s24 :: .v o :: e) := Eq.trans rfl rfl
@[simp] theorem w25i {s0 s1 s2 s3 s4 s5 s6 s7 s8 s9 s10 s11 s12 s13 s14 s15 s16 s17 s18 s19 s20 s21 s22 s23 s24 : Sl} {s : Sl} {o : O} (h : s.pinned = false) : setS (s0 :: s1 :: s2 :: s3 :: s4 :: s5 :: s6 :: s7 :: s8 :: s9 :: s10 :: s11 :: s12 :: s13 :: s14 :: s15 :: s16 :: s17 :: s18 :: s19 :: s20 :: s21 :: s22 :: s23 :: s24 :: s :: e) 25 o = some (s0 :: s1 :: s2 :: s3 :: s4 :: s5 :: s6 :: s7 :: s8 :: s9 :: s10 :: s11 :: s12 :: s13 :: s14 :: s15 :: s16 :: s17 :: s18 :: s19 :: s20 :: s21 :: s22 :: s23 :: s24 :: .v o :: e) := by simp [setS, h]
@[simp] theorem w25f {s0 s1 s2 s3 s4 s5 s6 s7 s8 s9 s10 s11 s12 s13 s14 s15 s16 s17 s18 s19 s20 s21 s22 s23 s24 : Sl} {o : O} : dMove 25 (s0 :: s1 :: s2 :: s3 :: s4 :: s5 :: s6 :: s7 :: s8 :: s9 :: s10 :: s11 :: s12 :: s13 :: s14 :: s15 :: s16 :: s17 :: s18 :: s19 :: s20 :: s21 :: s22 :: s23 :: s24 :: .v o :: e) = .ok o (s0 :: s1 :: s2 :: s3 :: s4 :: s5 :: s6 :: s7 :: s8 :: s9 :: s10 :: s11 :: s12 :: s13 :: s14 :: s15 :: s16 :: s17 :: s18 :: s19 :: s20 :: s21 :: s22 :: s23 :: s24 :: .no :: e) := Eq.trans rfl rfl
@[simp] theorem w25g {s0 s1 s2 s3 s4 s5 s6 s7 s8 s9 s10 s11 s12 s13 s14 s15 s16 s17 s18 s19 s20 s21 s22 s23 s24 : Sl} {s : Sl} {o q : O} {as : List Ag} {qs : List (Option O)} (h : s.cont = none) : wb (s0 :: s1 :: s2 :: s3 :: s4 :: s5 :: s6 :: s7 :: s8 :: s9 :: s10 :: s11 :: s12 :: s13 :: s14 :: s15 :: s16 :: s17 :: s18 :: s19 :: s20 :: s21 :: s22 :: s23 :: s24 :: s :: e) ((o, some 25) :: as) (some q :: qs) = wb (s0 :: s1 :: s2 :: s3 :: s4 :: s5 :: s6 :: s7 :: s8 :: s9 :: s10 :: s11 :: s12 :: s13 :: s14 :: s15 :: s16 :: s17 :: s18 :: s19 :: s20 :: s21 :: s22 :: s23 :: s24 :: s.put q :: e) as qs := by simp [wb, h, putS, modS]
@[simp] theorem w25h {s0 s1 s2 s3 s4 s5 s6 s7 s8 s9 s10 s11 s12 s13 s14 s15 s16 s17 s18 s19 s20 s21 s22 s23 s24 : Sl} {s : Sl} {t : Sl} : List.set (s0 :: s1 :: s2 :: s3 :: s4 :: s5 :: s6 :: s7 :: s8 :: s9 :: s10 :: s11 :: s12 :: s13 :: s14 :: s15 :: s16 :: s17 :: s18 :: s19 :: s20 :: s21 :: s22 :: s23 :: s24 :: s :: e) 25 t = s0 :: s1 :: s2 :: s3 :: s4 :: s5 :: s6 :: s7 :: s8 :: s9 :: s10 :: s11 :: s12 :: s13 :: s14 :: s15 :: s16 :: s17 :: s18 :: s19 :: s20 :: s21 :: s22 :: s23 :: s24 :: t :: e := Eq.trans rfl rfl
@[simp] theorem v11 {o : O} : Sl.pinned (.v o) = false := Eq.trans rfl rfl
@[simp] theorem v12 : Sl.pinned .no = false := Eq.trans rfl rfl
@[simp] theorem u1 {t : Tg} {b : En → Out} : sForL t b [] e = .nx e := Eq.trans rfl rfl
def forK (t : Tg) (b : En → Out) (ds : List D) : Out → Out
  | .nx e2 => sForL t b ds e2
  | .ct e2 => sForL t b ds e2
  | .bk e2 => .nx e2
  | r => r
def forT (t : Tg) (b : En → Out) (ds : List D) : Option En → Out
  | none => .bad
  | some e1 => forK t b ds (b e1)
theorem u2 {t : Tg} {b : En → Out} {d : D} {ds : List D} : sForL t b (d :: ds) e = forT t b ds (t (.d d) e) := by
  show (match t (.d d) e with
    | none => Out.bad
    | some e1 => match b e1 with
      | .nx e2 => sForL t b ds e2
      | .ct e2 => sForL t b ds e2
      | .bk e2 => .nx e2
      | r => r) = _
  unfold forT forK
  cases t (.d d) e with
  | none => rfl
  | some e1 => cases h : b e1 <;> simp [h]
@[simp] theorem u3 {t : Tg} {b : En → Out} {ds : List D} : forT t b ds (some e) = forK t b ds (b e) := Eq.trans rfl rfl
@[simp] theorem u4 {t : Tg} {b : En → Out} {ds : List D} : forK t b ds (.nx e) = sForL t b ds e := Eq.trans rfl rfl
@[simp] theorem u5 {t : Tg} {b : En → Out} {ds : List D} {o : O} : forK t b ds (.rt o e) = .rt o e := Eq.trans rfl rfl
@[simp] theorem u6 {t : Tg} {b : En → Out} {ds : List D} : forK t b ds (.exc c ps e) = .exc c ps e := Eq.trans rfl rfl
@[simp] theorem u7 {t : Tg} {b : En → Out} {ds : List D} : forK t b ds (.bk e) = .nx e := Eq.trans rfl rfl
@[simp] theorem u8 {t : Tg} {b : En → Out} {ds : List D} : forK t b ds (.ct e) = sForL t b ds e := Eq.trans rfl rfl
@[simp] theorem v1 {o : O} : Sl.cont (.v o) = some o := Eq.trans rfl rfl
@[simp] theorem v2 {o : O} : Sl.cont (.p o) = some o := Eq.trans rfl rfl
@[simp] theorem v3 : Sl.cont .no = none := Eq.trans rfl rfl
@[simp] theorem v4 : Sl.cont .pn = none := Eq.trans rfl rfl
@[simp] theorem v5 {o q : O} : Sl.put (.v o) q = .v q := Eq.trans rfl rfl
@[simp] theorem v6 {o q : O} : Sl.put (.p o) q = .p q := Eq.trans rfl rfl
@[simp] theorem v7 {q : O} : Sl.put .no q = .v q := Eq.trans rfl rfl
@[simp] theorem v8 {q : O} : Sl.put .pn q = .p q := Eq.trans rfl rfl
@[simp] theorem v9 {o : O} : Sl.lent (.v o) = .no := Eq.trans rfl rfl
@[simp] theorem v10 {o : O} : Sl.lent (.p o) = .pn := Eq.trans rfl rfl
end
end MX
namespace MX
open PySem L2
end MX
namespace MX
open PySem L2
theorem seqr {a b : En → Out} {e e1 : En} {o : O} (h : a e = .rt o e1) : sSeq a b e = .rt o e1 := by simp [h]
theorem seqe {a b : En → Out} {e e1 : En} {c : String} {pl : List (Str × D)} (h : a e = .exc c pl e1) : sSeq a b e = .exc c pl e1 := by simp [h]
theorem for_nx {t : Tg} {B : En → Out} {d : D} {ds : List D} {e e1 e2 : En} (h1 : t (.d d) e = some e1) (h2 : B e1 = .nx e2) : sForL t B (d :: ds) e = sForL t B ds e2 := by
  rw [u2, h1, u3, h2, u4]
theorem for_rt {t : Tg} {B : En → Out} {d : D} {ds : List D} {e e1 e2 : En} {o : O} (h1 : t (.d d) e = some e1) (h2 : B e1 = .rt o e2) : sForL t B (d :: ds) e = .rt o e2 := by
  rw [u2, h1, u3, h2, u5]
theorem lc_flt {vs : List Nat} {t : Tg} {c : En → Rs Bool} {el : En → Rs O} {f : D → O} {P : D → Bool} {e : En} : ∀ (ds : List D) (acc : List O),
    (∀ d ∈ ds, ∃ e1 e2, t (.d d) e = some e1 ∧ c e1 = .ok (P d) e2 ∧ ((P d = false ∧ wipeE e2 vs = e) ∨ (P d = true ∧ ∃ e3, el e2 = .ok (f d) e3 ∧ wipeE e3 vs = e))) → acc.length + ds.length ≤ 2000 →
    lcL vs t c el ds acc e = .ok (.lst (acc ++ (ds.filter P).map f)) e
  | [], acc, _, _ => by rw [List.filter_nil, List.map_nil, List.append_nil]; rfl
  | d :: ds, acc, h, hz => by
    obtain ⟨e1, e2, h1, h2, h3⟩ := h d List.mem_cons_self
    rw [List.length_cons] at hz
    have hz2 : acc.length < sizeLine := Nat.lt_of_lt_of_le (m := 2000) (by omega) (by decide)
    rcases h3 with ⟨hp, hw⟩ | ⟨hp, e3, he, hw⟩
    · have ih := lc_flt (vs := vs) (t := t) (c := c) (el := el) (f := f) (P := P) (e := e) ds acc (fun x hx => h x (List.mem_cons_of_mem _ hx)) (by omega)
      unfold lcL
      rw [hp] at h2
      simp only [h1, h2, hw, ih]
      rw [List.filter_cons_of_neg (by rw [hp]; decide)]
    · have ih := lc_flt (vs := vs) (t := t) (c := c) (el := el) (f := f) (P := P) (e := e) ds (acc ++ [f d]) (fun x hx => h x (List.mem_cons_of_mem _ hx)) (by rw [List.length_append, List.length_singleton]; omega)
      unfold lcL
      rw [hp] at h2
      simp only [h1, h2, he, hw, if_pos hz2, ih]
      rw [List.filter_cons_of_pos hp, List.append_assoc]
      rfl
end MX
namespace MX
open PySem L2
def box (r l a c s : Int) (cells : List D) : List O := [.d (.int r), .d (.int l), .d (.int a), .d (.int c), .d (.int s), .d (.lst cells)]
section
variable {r l a c s : Int} {cells : List D}
@[simp] theorem q0 : fIx (.lst (box r l a c s cells)) (.d (.int 0)) = some (.d (.int r)) := by rfl
@[simp] theorem q1 : fIx (.lst (box r l a c s cells)) (.d (.int 1)) = some (.d (.int l)) := by rfl
@[simp] theorem q2 : fIx (.lst (box r l a c s cells)) (.d (.int 2)) = some (.d (.int a)) := by rfl
@[simp] theorem q3 : fIx (.lst (box r l a c s cells)) (.d (.int 3)) = some (.d (.int c)) := by rfl
@[simp] theorem q4 : fIx (.lst (box r l a c s cells)) (.d (.int 4)) = some (.d (.int s)) := by rfl
@[simp] theorem q5 : fIx (.lst (box r l a c s cells)) (.d (.int 5)) = some (.d (.lst cells)) := by rfl
@[simp] theorem k0 {x : Int} : (O.lst (box r l a c s cells)).store (.d (.int 0)) (.d (.int x)) = some (.lst (box x l a c s cells)) := by rfl
@[simp] theorem k1 {x : Int} : (O.lst (box r l a c s cells)).store (.d (.int 1)) (.d (.int x)) = some (.lst (box r x a c s cells)) := by rfl
@[simp] theorem k2 {x : Int} : (O.lst (box r l a c s cells)).store (.d (.int 2)) (.d (.int x)) = some (.lst (box r l x c s cells)) := by rfl
@[simp] theorem k3 {x : Int} : (O.lst (box r l a c s cells)).store (.d (.int 3)) (.d (.int x)) = some (.lst (box r l a x s cells)) := by rfl
@[simp] theorem k4 {x : Int} : (O.lst (box r l a c s cells)).store (.d (.int 4)) (.d (.int x)) = some (.lst (box r l a c x cells)) := by rfl
end
def idx (a m : Nat) : List D := (List.range' a m).map fun (i : Nat) => D.int (i : Int)
theorem idx_s {a m : Nat} : idx a (m + 1) = D.int (a : Int) :: idx (a + 1) m := by unfold idx; rw [List.range'_succ]; rfl
theorem idx_0 {a : Nat} : idx a 0 = [] := rfl
theorem gR1_n {m : Nat} (h : m ≤ 1000000) : gR1 [.d (.int (m : Int))] = some (idx 0 m) := by
  have e : inB (m : Int) = true := by unfold inB; simp; omega
  show (if inB (m : Int) = true then some (rangeD 0 (m : Int).toNat) else none) = _
  rw [if_pos e, Int.toNat_natCast]
  unfold rangeD idx
  rw [List.range_eq_range']
  simp
def trR (n : Int) : Nat → Nat → Option Bool
  | _, 0 => none
  | k, f + 1 => if n < (k : Int) * k then some true else if n % (k : Int) = 0 then some false else trR n (k + 1) f
def isPrI (n : Int) : Bool := if n < 2 then false else (trR n 2 38).getD true
theorem i1 {i : Int} {t : String} (h : t = "tuple" ∨ t = "str" ∨ t = "bool" ∨ t = "list") : on2 fIsi [.d (.int i), .d (.ty t)] = some (.d (.bl false)) := by rcases h with h | h | h | h <;> subst h <;> rfl
theorem i2 {i : Int} : on2 fIsi [.d (.int i), .d (.ty "int")] = some (.d (.bl true)) := rfl
theorem i3 {ds : List D} : on2 fIsi [.d (.tup ds), .d (.ty "tuple")] = some (.d (.bl true)) := rfl
theorem i4 {b : Bool} : on2 fIsi [.d (.bl b), .d (.ty "bool")] = some (.d (.bl true)) := rfl
theorem j1 {i : Int} : fIsiB ["tuple", "list"] (.d (.int i)) = some (.d (.bl false)) := rfl
theorem j2 {b : Bool} : fIsiB ["tuple", "list"] (.d (.bl b)) = some (.d (.bl false)) := rfl
theorem j3 {ds : List D} : fIsiB ["tuple", "list"] (.d (.tup ds)) = some (.d (.bl true)) := rfl
theorem isN {i : Int} : fIsN (.d (.int i)) (.d .non) = some (.d (.bl false)) := rfl
theorem ixT_map {α : Type} {f : α → D} {l : List α} {x : α} {k : Nat} (h : l[k]? = some x) : fIx (.d (.tup (l.map f))) (.d (.int (k : Int))) = some (.d (f x)) := by
  have hat : atI (l.map f) (k : Int) = some (f x) := atI_nat (by rw [List.getElem?_map, h]; rfl)
  have e : fIxT (.d (.tup (l.map f))) (.d (.int (k : Int))) = some (.d (f x)) := by
    show (atI (l.map f) (k : Int)).map O.d = _
    rw [hat]; rfl
  show (match fIxT (.d (.tup (l.map f))) (.d (.int (k : Int))) with
    | some z => some z
    | none => _) = _
  rw [e]
def di (i : Nat) : D := .int (i : Int)
def nl (l : List Nat) : O := .lst (l.map fun (i : Nat) => .d (.int (i : Int)))
def rowT (r : List Nat) : D := .tup (r.map di)
def entOk (n : Nat) : D → Bool
  | .int i => decide (0 ≤ i) && decide (i < (n : Int))
  | _ => false
def rowOk (n : Nat) : D → Bool
  | .tup es => decide (es.length = n) && es.all (entOk n)
  | _ => false
def I1 (rs : List D) (r : D) (e : En) : Prop := ∃ s2 : Sl, s2.pinned = false ∧ e = [.p (.d (.tup rs)), .v (.d r), s2]
section
variable (rs : List D) (E B : En → Out) (e : En)
abbrev S5 : En → Rs Bool := (dOrT (dNotT (dTst (dCall (on2 fIsi) (vCons (vS 0) (vCons (vT (dC (.ty "tuple"))) vNil))))) (dTst (dBin fNinU (vT (dCall fLenU (vCons (vS 0) vNil))) (vT (dLst (aCons (dC (.int 3)) (aCons (dC (.int 5)) (aCons (dC (.int 7)) (aCons (dC (.int 11)) (aCons (dC (.int 13)) aNil))))))))))
end
theorem idx_di {a m : Nat} : idx a m = (List.range' a m).map di := rfl
theorem idx_r {m : Nat} : idx 0 m = (List.range m).map di := by rw [List.range_eq_range']; rfl
theorem nl_ls (l : List Nat) : (nl l).ls = some (l.map di) := by
  have := leafs_map (l.map di)
  rw [List.map_map] at this
  exact this
structure Sq (T : List (List Nat)) (q : Nat) : Prop where
  len : T.length = q
  row : ∀ r ∈ T, r.length = q ∧ ∀ x ∈ r, x < q
  pr : [3, 5, 7, 11, 13].contains q = true
def rw_ (T : List (List Nat)) (a : Nat) : List Nat := T.getD a []
def at_ (T : List (List Nat)) (a b : Nat) : Nat := (rw_ T a).getD b 0
theorem Sq.rowi {T : List (List Nat)} {q a : Nat} (h : Sq T q) (ha : a < q) : T[a]? = some (rw_ T a) := by
  have := h.len
  unfold rw_
  rw [List.getD_eq_getElem?_getD, List.getElem?_eq_getElem (by omega)]; rfl
theorem Sq.rmem {T : List (List Nat)} {q a : Nat} (h : Sq T q) (ha : a < q) : rw_ T a ∈ T := List.mem_of_getElem? (h.rowi ha)
theorem Sq.rlen {T : List (List Nat)} {q a : Nat} (h : Sq T q) (ha : a < q) : (rw_ T a).length = q := (h.row _ (h.rmem ha)).1
theorem Sq.ati {T : List (List Nat)} {q a b : Nat} (h : Sq T q) (ha : a < q) (hb : b < q) : (rw_ T a)[b]? = some (at_ T a b) := by
  have := h.rlen ha
  unfold at_
  rw [List.getD_eq_getElem?_getD, List.getElem?_eq_getElem (by omega)]; rfl
theorem Sq.lt {T : List (List Nat)} {q a b : Nat} (h : Sq T q) (ha : a < q) (hb : b < q) : at_ T a b < q := (h.row _ (h.rmem ha)).2 _ (List.mem_of_getElem? (h.ati ha hb))
def natD : D → Nat
  | .int i => i.toNat
  | _ => 0
theorem rgB_q {q : Nat} (h : q ≤ 1000) : rgB 0 (q : Int) = true := by
  have i0 : inB 0 = true := by decide
  have iq : inB (q : Int) = true := by unfold inB; simp; omega
  show (inB 0 && inB (q : Int) && decide _) = true
  rw [i0, iq, Bool.true_and, Bool.true_and]
  exact decide_eq_true (by omega)
theorem en_ar (i : Nat) (e : En) (ds : List D) (h : slot e i = some (.d (.tup ds))) : iAr (aCons (dVar i) aNil) gEnum e = .ok (enumL 0 ds) e := by
  have : gEnum [.tup ds] = some (enumL 0 ds) := rfl
  simp only [iAr]
  simp [h, this]
def it (f : Nat → Nat) : Nat → Nat → Nat
  | 0, x => x
  | k + 1, x => f (it f k x)
structure Gt (T : List (List Nat)) (q e : Nat) : Prop where
  sq : Sq T q
  eq : e < q
  ul : ∀ a, a < q → at_ T e a = a
  ur : ∀ a, a < q → at_ T a e = a
  as : ∀ a b c, a < q → b < q → c < q → at_ T (at_ T a b) c = at_ T a (at_ T b c)
  lc : ∀ a x y, a < q → x < q → y < q → at_ T a x = at_ T a y → x = y
def pn (T : List (List Nat)) (s e : Nat) (k : Nat) : Nat := it (fun x => at_ T x s) k e
def inss (x : Nat) : List Nat → List Nat
  | [] => [x]
  | y :: ys => if x ≤ y then x :: y :: ys else y :: inss x ys
def srt : List Nat → List Nat
  | [] => []
  | x :: xs => inss x (srt xs)
theorem inss_perm (x : Nat) : ∀ l : List Nat, (inss x l).Perm (x :: l)
  | [] => List.Perm.refl _
  | y :: l => by
    show (if x ≤ y then x :: y :: l else y :: inss x l).Perm _
    split
    · exact List.Perm.refl _
    · exact ((inss_perm x l).cons y).trans (List.Perm.swap _ _ _)
theorem srt_perm : ∀ l : List Nat, (srt l).Perm l
  | [] => List.Perm.refl _
  | x :: l => (inss_perm x (srt l)).trans ((srt_perm l).cons x)
abbrev newG : O := .obj "TableGroup" [] []
abbrev cG : Sl := .v (.d (.cls "TableGroup"))
theorem ix_at' {l : List Nat} {i : Int} {x : Nat} (h : atI (l.map di) i = some (di x)) : fIx (nl l) (.d (.int i)) = some (.d (.int (x : Int))) := by
  have e3 : fIxL (nl l) (.d (.int i)) = some (.d (.int (x : Int))) := by
    show (match (nl l).ls with
      | some xs => (atI xs i).map O.d
      | none => none) = _
    rw [nl_ls]
    show (atI (l.map di) i).map O.d = _
    rw [h]; rfl
  show (match fIxL (nl l) (.d (.int i)) with
    | some z => some z
    | none => _) = _
  rw [e3]
theorem ix_last {l : List Nat} {x : Nat} : fIx (nl (l ++ [x])) (.d (.int (-1))) = some (.d (.int (x : Int))) := ix_at' (by rw [List.map_append]; exact atI_last _ _)
abbrev f1 : List Str := ["order"]
abbrev f2 : List Str := ["order", "unit"]
abbrev f3 : List Str := ["order", "unit", "members"]
abbrev f4 : List Str := ["order", "unit", "members", "_powers"]
abbrev f5 : List Str := ["order", "unit", "members", "_powers", "_exponents"]
abbrev f6 : List Str := ["order", "unit", "members", "_powers", "_exponents", "table"]
theorem intsD_di : ∀ l : List Nat, intsD (l.map di) = some (l.map fun (i : Nat) => (i : Int))
  | [] => rfl
  | x :: l => by
    show (intsD (l.map di)).map ((x : Int) :: ·) = _
    rw [intsD_di l]; rfl
section
variable {v u : D} {n q s : Int} {b : Bool} {s3 s4 s5 s6 s7 : Sl} {L : O} {t : D}
theorem t2 (h : fLenU [.d v] = some (.d (.int n))) : (sAsg (dCall fLenU (vCons (vS 1) vNil)) (tName 3)) [.p newG, .p (.d v), cG, .no, .no, .no, .no, .no] = .nx [.p newG, .p (.d v), cG, .v (.d (.int n)), .no, .no, .no, .no] := by
  simp [h]
theorem t6 (h5 : s5.pinned = false) : (sAsg (dC (.int 0)) (tName 6)) [.p newG, .p (.d v), cG, s3, s4, s5, .no, .no] = .nx [.p newG, .p (.d v), cG, s3, s4, s5, .v (.d (.int 0)), .no] := by
  simp
theorem t7 : (sIf (dTst (dBin fEq (vS 4) (vT (dC (.int 0))))) (sAsg (dC (.int 1)) (tName 6)) sNext) [.p newG, .p (.d v), cG, s3, .v (.d (.int q)), s5, .v (.d (.int 0)), .no] = .nx [.p newG, .p (.d v), cG, s3, .v (.d (.int q)), s5, .v (.d (.int (if q = 0 then 1 else 0))), .no] := by
  by_cases h : q = 0 <;> simp [h]
theorem t8 : (sAsg (dLst (aCons (dVar 4) aNil)) (tName 7)) [.p newG, .p (.d v), cG, s3, .v (.d (.int q)), s5, s6, .no] = .nx [.p newG, .p (.d v), cG, s3, .v (.d (.int q)), s5, s6, .v (.lst [.d (.int q)])] := by
  have z1 : (1 : Nat) ≤ sizeLine := by decide
  simp [z1]
end
theorem rgD_q {q : Nat} (hq : q ≤ 1000) : rgD 0 (q : Int) = (List.range q).map di := by
  rw [← idx_r]
  refine Option.some.inj ?_
  rw [← gR1_n (m := q) (by omega)]
  show _ = (if inB (q : Int) = true then some (rangeD 0 (q : Int).toNat) else none)
  rw [if_pos (by unfold inB; simp; omega)]
  unfold rgD
  simp
theorem i5 {s : Str} : on2 fIsi [.d (.str s), .d (.ty "str")] = some (.d (.bl true)) := rfl
def memI (v : Int) (l : List Nat) : Bool := decide (v ∈ l.map fun (i : Nat) => (i : Int))
theorem flats_di : ∀ l : List Nat, flats (l.map di) = some (l.map fun (i : Nat) => V.int (i : Int))
  | [] => rfl
  | x :: l => by
    show (match (di x).flat, flats (l.map di) with
      | some v, some vs => some (v :: vs)
      | _, _ => none) = _
    rw [flats_di l]; rfl
theorem inV_di (v : Int) : ∀ l : List Nat, inV (.int v) (l.map fun (i : Nat) => V.int (i : Int)) = memI v l
  | [] => rfl
  | x :: l => by
    show (eqV (.int (x : Int)) (.int v) || inV (.int v) (l.map fun (i : Nat) => V.int (i : Int))) = _
    rw [inV_di v l]
    unfold memI
    have e : eqV (.int (x : Int)) (.int v) = decide (v = (x : Int)) := Bool.eq_iff_iff.mpr ⟨fun q => decide_eq_true (beq_iff_eq.mp q).symm, fun q => beq_iff_eq.mpr (of_decide_eq_true q).symm⟩
    rw [e]
    by_cases h : v = (x : Int) <;> simp [h]
theorem in_tup (v : Int) (l : List Nat) : fInU (.d (.int v)) (.d (.tup (l.map di))) = some (.d (.bl (memI v l))) := by
  have e : din (.d (.int v)) (.d (.tup (l.map di))) = some (memI v l) := by
    show (match (D.int v).flat, flats (l.map di) with
      | some v, some vs => some (inV v vs)
      | _, _ => none) = _
    rw [flats_di]
    show some (inV (.int v) _) = _
    rw [inV_di]
  have e2 : fIn (.d (.int v)) (.d (.tup (l.map di))) = some (.d (.bl (memI v l))) := by unfold fIn; rw [e]; rfl
  unfold fInU
  rw [e2]
section
variable {T : List (List Nat)} {q e : Nat} (g : Gt T q e)
include g
def iv (q i : Nat) : Nat := if i = 0 then 0 else q - i
end
theorem ixL_map (xs : List D) (j : Nat) (x : D) (h : xs[j]? = some x) : fIx (.lst (xs.map .d)) (.d (.int (j : Int))) = some (.d x) := by
  have e3 : fIxL (.lst (xs.map .d)) (.d (.int (j : Int))) = some (.d x) := by
    show (match (O.lst (xs.map .d)).ls with
      | some xs => (atI xs (j : Int)).map O.d
      | none => none) = _
    rw [show (O.lst (xs.map .d)).ls = some xs from leafs_map xs]
    show (atI xs (j : Int)).map O.d = _
    rw [atI_nat h]; rfl
  show (match fIxL (.lst (xs.map .d)) (.d (.int (j : Int))) with
    | some z => some z
    | none => _) = _
  rw [e3]
section
variable {r : O} {G t : D} {q : Int} {o : List O} {s5 s6 s7 s8 s9 s10 : Sl} {R : Out}
theorem pow9 : fPow (.d (.int 10)) (.d (.int 9)) = some (.d (.int 1000000000)) := by rfl
theorem u9 {B : En → Out} (h : sForL (tName 10) B [.int 0, .int (q - 1), .int q, .int (-1), .int 1000000000, .tup [], .tup [.int 0], .str (Str.ofString "0"), .non] [.p (.lst o), .p r, .v (.d t), .v (.d G), .v (.d (.int q)), s5, s6, s7, s8, s9, .no] = R) :
  (sFor (iAny (dLst (aCons (dC (.int 0)) (aCons (dBin fSub (vS 4) (vT (dC (.int 1)))) (aCons (dVar 4) (aCons (dUn fNeg (vT (dC (.int 1)))) (aCons (dBin fPow (vT (dC (.int 10))) (vT (dC (.int 9)))) (aCons (dTup aNil) (aCons (dTup (aCons (dC (.int 0)) aNil)) (aCons (dC (.str (Str.ofString "0"))) (aCons (dC .non) aNil))))))))))) (tName 10) B) [.p (.lst o), .p r, .v (.d t), .v (.d G), .v (.d (.int q)), s5, s6, s7, s8, s9, .no] = R := by
  have z0 : (0 : Nat) ≤ sizeLine := by decide
  have z1 : (1 : Nat) ≤ sizeLine := by decide
  have z9 : (9 : Nat) ≤ sizeLine := by decide
  simp [pow9, z0, z1, z9, h]
end
theorem sIx_posN {n d : Nat} {j : Nat} : HT.sIx n d (some (j : Int)) = min j n := by
  rw [HT.sIx_nat]
theorem cut_toN {xs : List D} {j : Nat} : cutD xs none (some (j : Int)) = xs.take j := by
  unfold cutD
  rw [HT.sIx_none, sIx_posN, List.drop_zero, Nat.sub_zero]
  rcases Nat.le_total j xs.length with q | q
  · rw [Nat.min_eq_left q]
  · rw [Nat.min_eq_right q, List.take_length, List.take_of_length_le q]
theorem cut_frN {xs : List D} {j : Nat} : cutD xs (some (j : Int)) none = xs.drop j := by
  unfold cutD
  rw [HT.sIx_none, sIx_posN]
  rcases Nat.le_total j xs.length with q | q
  · rw [Nat.min_eq_left q]
    exact List.take_of_length_le (by rw [List.length_drop]; exact Nat.le_refl _)
  · rw [Nat.min_eq_right q, List.drop_length, List.drop_eq_nil_of_le q, List.take_nil]
theorem sl_tt {xs : List D} {j : Nat} : fSl (.d (.tup xs)) none (some (j : Int)) = some (.d (.tup (xs.take j))) := by
  show some (O.d (.tup (cutD xs none (some (j : Int))))) = _
  rw [cut_toN]
theorem sl_tf {xs : List D} {j : Nat} : fSl (.d (.tup xs)) (some (j : Int)) none = some (.d (.tup (xs.drop j))) := by
  show some (O.d (.tup (cutD xs (some (j : Int)) none))) = _
  rw [cut_frN]
theorem cat_t {xs ys : List D} (h : xs.length + ys.length ≤ 2000) : fAdd (.d (.tup xs)) (.d (.tup ys)) = some (.d (.tup (xs ++ ys))) := by
  have hz : 2000 ≤ sizeLine := by decide
  show (if xs.length + ys.length ≤ sizeLine then some (O.d (.tup (xs ++ ys))) else none) = _
  rw [if_pos (Nat.le_trans h hz)]
theorem cat_l {xs ys : List D} (h : xs.length + ys.length ≤ 2000) : fAdd (.lst (xs.map .d)) (.lst (ys.map .d)) = some (.lst ((xs ++ ys).map .d)) := by
  have hz : 2000 ≤ sizeLine := by decide
  have e1 : fCat (.lst (xs.map .d)) (.lst (ys.map .d)) = some (.lst ((xs ++ ys).map .d)) := by
    show (match leafs (xs.map .d), leafs (ys.map .d) with
      | some xs, some ys => if xs.length + ys.length ≤ sizeLine then some (O.lst ((xs ++ ys).map .d)) else none
      | _, _ => none) = _
    rw [leafs_map, leafs_map]
    show (if xs.length + ys.length ≤ sizeLine then some (O.lst ((xs ++ ys).map .d)) else none) = _
    rw [if_pos (Nat.le_trans h hz)]
  show (match fCat (.lst (xs.map .d)) (.lst (ys.map .d)) with
      | some z => some z
      | none => fCatT (.lst (xs.map .d)) (.lst (ys.map .d))) = _
  rw [e1]
section
variable {r P L M : O} {t u z w : D} {q a b c d i x y v : Int} {o o1 : List O} {os xs ys : List O} {ix : List D} {tg : Tg} {cc : En → Rs Bool} {el : En → Rs O} {s1 s4 s5 s6 s7 s8 s9 s10 s11 s12 s13 : Sl}
abbrev Eal (o : List O) (s1 s2 s3 s4 s5 s6 s7 s8 s9 : Sl) : En := [.p (.lst o), s1, s2, s3, s4, s5, s6, s7, s8, s9, .no, .no, .no, .no]
theorem al2 (h : fLenU [r] = some (.d (.int q))) : (sAsg (dCall fLenU (vCons (vS 1) vNil)) (tName 3)) (Eal o (.p r) (.v (.d t)) .no .no .no .no .no .no .no) = .nx (Eal o (.p r) (.v (.d t)) (.v (.d (.int q))) .no .no .no .no .no .no) := by
  simp [h]
abbrev inR (tg : Tg) (cc : En → Rs Bool) (el : En → Rs O) : En → Rs O := (dCall (on1 fTuple) (vCons (vT (dLc (iOps (vCons (vS 3) vNil) gR1) [13] tg cc el)) vNil))
theorem inr (hg : gR1 [.d (.int q)] = some ix) (h : lcL [13] tg cc el ix [] [.p (.lst o), s1, .v (.d t), .v (.d (.int q)), s4, s5, s6, s7, s8, s9, .no, .no, s12, .no] = .ok L [.p (.lst o), s1, .v (.d t), .v (.d (.int q)), s4, s5, s6, s7, s8, s9, .no, .no, s12, .no]) (h2 : on1 fTuple [L] = some (.d z)) :
  inR tg cc el [.p (.lst o), s1, .v (.d t), .v (.d (.int q)), s4, s5, s6, s7, s8, s9, .no, .no, s12, .no] = .ok (.d z) [.p (.lst o), s1, .v (.d t), .v (.d (.int q)), s4, s5, s6, s7, s8, s9, .no, .no, s12, .no] := by
  have w : wipeE [.p (.lst o), s1, .v (.d t), .v (.d (.int q)), s4, s5, s6, s7, s8, s9, .no, .no, s12, .no] [13] = [.p (.lst o), s1, .v (.d t), .v (.d (.int q)), s4, s5, s6, s7, s8, s9, .no, .no, s12, .no] := rfl
  simp [hg, w, h, h2]
theorem z_late {i : Nat} {r : En → Rs (List Ag)} {e : En} : cLate i r e = match slot e i with
  | none => .bad
  | some _ => (r e).bind fun as e1 => (gName i e1).bind fun a e2 => .ok (a :: as) e2 := Eq.trans rfl rfl
end
theorem nin_of {v : Int} {b : O} {l : List Nat} (h : b.items = some (l.map di)) : fNinU (.d (.int v)) b = some (.d (.bl (!memI v l))) := by
  have e : din (.d (.int v)) b = some (memI v l) := by
    unfold din
    rw [h]
    show (match (D.int v).flat, flats (l.map di) with
      | some v, some vs => some (inV v vs)
      | _, _ => none) = _
    rw [flats_di]
    show some (inV (.int v) _) = _
    rw [inV_di]
  have e2 : fNin (.d (.int v)) b = some (.d (.bl (!memI v l))) := by unfold fNin; rw [e]; rfl
  unfold fNinU
  rw [e2]
theorem memI_c {x : Nat} {l : List Nat} : memI (x : Int) l = l.contains x := by
  unfold memI
  rw [Bool.eq_iff_iff, decide_eq_true_eq, List.contains_iff_mem]
  constructor
  · intro h
    obtain ⟨y, hy, e⟩ := List.mem_map.mp h
    have : y = x := by omega
    rw [← this]; exact hy
  · intro h; exact List.mem_map.mpr ⟨x, h, rfl⟩
def extL (l : List Nat) : List (List Nat) := ((List.range 5).filter fun x => !l.contains x).map fun x => l ++ [x]
def stepL (ls : List (List Nat)) : List (List Nat) := ls.flatMap extL
abbrev wE : En → Rs O := (dBin fAdd (vS 4) (vT (dTup (aCons (dVar 9) aNil))))
abbrev wC : En → Rs Bool := (dTst (dBin fNinU (vS 9) (vS 4)))
abbrev wB (tg : Tg) (cc : En → Rs Bool) (el : En → Rs O) : En → Out := (sAsg (dBin fAdd (vS 3) (vT (dLc (iOps (vCons (vT (dC (.int 5))) vNil) gR1) [9] tg cc el))) (tName 3))
section
variable {o : List O} {l z : D} {x a : Int} {s1 s2 s3 s4 s5 s6 s7 s8 : Sl} {ds ix : List D} {L M W X Y : O} {b : Bool} {tg : Tg} {cc : En → Rs Bool} {el : En → Rs O}
theorem w_c (h : fNinU (.d (.int x)) (.d l) = some (.d (.bl b))) : wC [.p (.lst o), s1, s2, s3, .v (.d l), s5, s6, s7, s8, .v (.d (.int x))] = .ok b [.p (.lst o), s1, s2, s3, .v (.d l), s5, s6, s7, s8, .v (.d (.int x))] := by
  simp [h]
theorem w_e (h : fAdd (.d l) (.d (.tup [.int x])) = some (.d z)) : wE [.p (.lst o), s1, s2, s3, .v (.d l), s5, s6, s7, s8, .v (.d (.int x))] = .ok (.d z) [.p (.lst o), s1, s2, s3, .v (.d l), s5, s6, s7, s8, .v (.d (.int x))] := by
  have z1 : (1 : Nat) ≤ sizeLine := by decide
  simp [h, z1]
theorem w_b (hg : gR1 [.d (.int 5)] = some ix) (h : lcL [9] tg cc el ix [] [.p (.lst o), s1, s2, .v W, .v (.d l), s5, s6, s7, s8, .no] = .ok L [.p (.lst o), s1, s2, .v W, .v (.d l), s5, s6, s7, s8, .no]) (h2 : fAdd W L = some M) :
  wB tg cc el [.p (.lst o), s1, s2, .v W, .v (.d l), s5, s6, s7, s8, .no] = .nx [.p (.lst o), s1, s2, .v M, .v (.d l), s5, s6, s7, s8, .no] := by
  have w : wipeE [.p (.lst o), s1, s2, .v W, .v (.d l), s5, s6, s7, s8, .no] [9] = [.p (.lst o), s1, s2, .v W, .v (.d l), s5, s6, s7, s8, .no] := rfl
  simp [hg, w, h, h2]
end
theorem nin_row {x : Nat} {l : List Nat} : fNinU (.d (.int (x : Int))) (.d (rowT l)) = some (.d (.bl (!l.contains x))) := by
  have := nin_of (v := (x : Int)) (b := .d (rowT l)) (l := l) rfl
  rw [memI_c] at this
  exact this
theorem add_row {x : Nat} {l : List Nat} (hl : l.length ≤ 1000) : fAdd (.d (rowT l)) (.d (.tup [.int (x : Int)])) = some (.d (rowT (l ++ [x]))) := by
  have := cat_t (xs := l.map di) (ys := [.int (x : Int)]) (by rw [List.length_map]; show l.length + 1 ≤ 2000; omega)
  have e : rowT (l ++ [x]) = .tup (l.map di ++ [.int (x : Int)]) := by unfold rowT; rw [List.map_append]; rfl
  rw [e]; exact this
theorem w_lc (o : List O) (s1 s2 s3 s5 s6 s7 s8 : Sl) {l : List Nat} (hl : l.length ≤ 1000) : lcL [9] (tName 9) wC wE (idx 0 5) [] [.p (.lst o), s1, s2, s3, .v (.d (rowT l)), s5, s6, s7, s8, .no] = .ok (.lst (((extL l).map rowT).map .d)) [.p (.lst o), s1, s2, s3, .v (.d (rowT l)), s5, s6, s7, s8, .no] := by
  have h := lc_flt (vs := [9]) (t := tName 9) (c := wC) (el := wE) (f := fun d => .d (rowT (l ++ [natD d]))) (P := fun d => !l.contains (natD d)) (e := [.p (.lst o), s1, s2, s3, .v (.d (rowT l)), s5, s6, s7, s8, .no]) (idx 0 5) [] (fun d hd => by
    obtain ⟨x, hx, rfl⟩ := List.mem_map.mp hd
    have n : natD (.int (x : Int)) = x := by show ((x : Int)).toNat = x; omega
    rw [n]
    have c := w_c (o := o) (s1 := s1) (s2 := s2) (s3 := s3) (s5 := s5) (s6 := s6) (s7 := s7) (s8 := s8) (nin_row (x := x) (l := l))
    refine ⟨_, _, by simp, c, ?_⟩
    cases hc : !l.contains x with
    | false => exact .inl ⟨rfl, rfl⟩
    | true => exact .inr ⟨rfl, _, w_e (add_row hl), rfl⟩) (by rw [idx_di, List.length_map, List.length_range']; show 0 + 5 ≤ 2000; omega)
  rw [List.nil_append] at h
  rw [h, idx_r, List.filter_map, List.map_map]
  unfold extL
  rw [List.map_map, List.map_map]
  have fe : (List.range 5).filter ((fun d => !l.contains (natD d)) ∘ di) = (List.range 5).filter fun x => !l.contains x := List.filter_congr fun x _ => by
    have n : natD (di x) = x := by show ((x : Int)).toNat = x; omega
    show (!l.contains (natD (di x))) = _
    rw [n]
  rw [fe]
  congr 2
theorem w_loop (o : List O) (s1 s2 s5 s6 s7 s8 : Sl) : ∀ (ls W : List (List Nat)) (s4 : Sl), (∀ l ∈ ls, l.length ≤ 1000) → W.length + 5 * ls.length ≤ 1500 → s4.pinned = false →
    ∃ t4 : Sl, t4.pinned = false ∧ sForL (tName 4) (wB (tName 9) wC wE) (ls.map rowT) [.p (.lst o), s1, s2, .v (.lst ((W.map rowT).map .d)), s4, s5, s6, s7, s8, .no] = .nx [.p (.lst o), s1, s2, .v (.lst (((W ++ stepL ls).map rowT).map .d)), t4, s5, s6, s7, s8, .no]
  | [], W, s4, _, _, h4 => ⟨s4, h4, by rw [show stepL [] = [] from rfl, List.append_nil]; exact u1⟩
  | l :: ls, W, s4, hl, hz, h4 => by
    rw [List.length_cons] at hz
    have el : (extL l).length ≤ 5 := by
      unfold extL
      rw [List.length_map]
      exact Nat.le_trans (List.length_filter_le ..) (by rw [List.length_range]; omega)
    have c := cat_l (xs := W.map rowT) (ys := (extL l).map rowT) (by rw [List.length_map, List.length_map]; omega)
    rw [← List.map_append] at c
    have b := w_b (o := o) (s1 := s1) (s2 := s2) (s5 := s5) (s6 := s6) (s7 := s7) (s8 := s8) (gR1_n (m := 5) (by omega)) (w_lc o s1 s2 (.v (.lst ((W.map rowT).map .d))) s5 s6 s7 s8 (hl l List.mem_cons_self)) c
    obtain ⟨t4, k4, ih⟩ := w_loop o s1 s2 s5 s6 s7 s8 ls (W ++ extL l) (.v (.d (rowT l))) (fun x hx => hl x (List.mem_cons_of_mem _ hx)) (by rw [List.length_append]; omega) rfl
    refine ⟨t4, k4, ?_⟩
    have tn : tName 4 (.d (rowT l)) [.p (.lst o), s1, s2, .v (.lst ((W.map rowT).map .d)), s4, s5, s6, s7, s8, .no] = some [.p (.lst o), s1, s2, .v (.lst ((W.map rowT).map .d)), .v (.d (rowT l)), s5, s6, s7, s8, .no] := by simp [h4]
    rw [List.map_cons, for_nx tn b, ih]
    have e : stepL (l :: ls) = extL l ++ stepL ls := by unfold stepL; rw [List.flatMap_cons]
    rw [e, List.append_assoc]
abbrev fC : En → Rs Bool := (dTst (dBin fEq (vT (dBin fIx (vS 4) (vT (dC (.int 0))))) (vS 6)))
theorem sFor_ok {it : En → Rs (List D)} {t : Tg} {b : En → Out} {e e1 : En} {ds : List D} (h : it e = .ok ds e1) : sFor it t b e = sForL t b ds e1 := by
  unfold sFor
  rw [h]; rfl
def S7 : List (List Nat) := [[0, 1, 2, 3, 4, 5, 6], [1, 3, 4, 0, 2, 6, 5], [2, 4, 6, 5, 1, 3, 0], [3, 0, 5, 1, 6, 2, 4], [4, 2, 1, 6, 5, 0, 3], [5, 6, 3, 2, 0, 4, 1], [6, 5, 0, 4, 3, 1, 2]]
end MX
namespace MX
open PySem L2
def OkPair (p q : Int) : Prop := p ≤ 1000 ∧ isPrI p = true ∧ 3 ≤ q ∧ q ≤ 127 ∧ isPrI q = true ∧ (p - 1) % q = 0
instance (p q : Int) : Decidable (OkPair p q) := by unfold OkPair; infer_instance
def itN (p a : Nat) : Nat → Nat → Nat
  | 0, s => s
  | m + 1, s => itN p a m (s * a % p)
theorem itN_pow {p a : Nat} : ∀ (m s : Nat), itN p a m s % p = s * a ^ m % p
  | 0, s => by show s % p = s * 1 % p; rw [Nat.mul_one]
  | m + 1, s => by
    show itN p a m (s * a % p) % p = _
    rw [itN_pow m, Nat.pow_succ, Nat.mod_mul_mod]
    congr 1
    rw [Nat.mul_assoc, Nat.mul_comm (a ^ m) a]
theorem itN_lt {p a : Nat} (hp : 1 < p) : ∀ (m s : Nat), s < p → itN p a m s < p
  | 0, s, h => h
  | m + 1, s, h => itN_lt hp m _ (Nat.mod_lt _ (by omega))
theorem it1 {p a m : Nat} (hp : 1 < p) : itN p a m 1 = a ^ m % p := by
  have h1 := itN_pow (p := p) (a := a) m 1
  rw [Nat.mod_eq_of_lt (itN_lt hp m 1 hp), Nat.one_mul] at h1
  exact h1
def stepN (p e : Nat) : Nat → Nat → Nat
  | _, 0 => 1
  | a, f + 1 => if a ^ e % p = 1 then stepN p e (a + 1) f else a ^ e % p
def pwL (p g n : Nat) : List Nat := (List.range n).map fun i => g ^ i % p
theorem pwL_len {p g n : Nat} : (pwL p g n).length = n := by unfold pwL; rw [List.length_map, List.length_range]
def fuelP (p : Nat) : Nat := min 20 (p - 2)
def stP (p q : Nat) : Nat := stepN p ((p - 1) / q) 2 (fuelP p)
def membN (p q : Nat) : Nat → Nat → List Nat
  | 0, _ => []
  | n + 1, x => if x ^ q % p = 1 then x :: membN p q n (x + 1) else membN p q n (x + 1)
theorem mem_membN {p q : Nat} : ∀ {n a x : Nat}, x ∈ membN p q n a ↔ a ≤ x ∧ x < a + n ∧ x ^ q % p = 1
  | 0, a, x => by
    unfold membN
    constructor
    · intro h; cases h
    · intro h; omega
  | n + 1, a, x => by
    unfold membN
    by_cases c : a ^ q % p = 1
    · rw [if_pos c, List.mem_cons, mem_membN]
      constructor
      · rintro (h | h)
        · subst h; exact ⟨Nat.le_refl _, by omega, c⟩
        · exact ⟨by omega, by omega, h.2.2⟩
      · intro h
        by_cases e : x = a
        · exact .inl e
        · exact .inr ⟨by omega, by omega, h.2.2⟩
    · rw [if_neg c, mem_membN]
      constructor
      · intro h; exact ⟨by omega, by omega, h.2.2⟩
      · intro h
        refine ⟨?_, by omega, h.2.2⟩
        by_cases e : x = a
        · subst e; exact absurd h.2.2 c
        · omega
theorem nd_membN {p q : Nat} : ∀ {n a : Nat}, (membN p q n a).Nodup
  | 0, a => by unfold membN; exact List.nodup_nil
  | n + 1, a => by
    unfold membN
    split
    · refine List.nodup_cons.mpr ⟨fun h => ?_, nd_membN⟩
      have := mem_membN.mp h
      omega
    · exact nd_membN
structure GP (p q : Nat) : Prop where
  ok : OkPair p q
  st : stP p q ≠ 1
  mb : srt (pwL p (stP p q) q) = membN p q (p - 1) 1
theorem GP.nd {p q : Nat} (h : GP p q) : (pwL p (stP p q) q).Nodup := (srt_perm _).nodup_iff.mp (by rw [h.mb]; exact nd_membN)
theorem GP.len {p q : Nat} (h : GP p q) : (membN p q (p - 1) 1).length = q := by rw [← h.mb, (srt_perm _).length_eq, pwL_len]
end MX
namespace MX
open PySem L2
theorem seqA {a b : En → Out} {e : En} {o R : Out} (h : a e = o) (k : o.andThen b = R) : sSeq a b e = R := by rw [z41, h, k]
end MX
namespace MX
open PySem L2
theorem tp_cat {xs ys : List D} (h : xs.length + ys.length ≤ 1000000) : fAdd (.d (.tup xs)) (.d (.tup ys)) = some (.d (.tup (xs ++ ys))) := by
  have h2 : xs.length + ys.length ≤ sizeLine := Nat.le_trans h (by decide)
  show fCatT (.d (.tup xs)) (.d (.tup ys)) = _
  show (if xs.length + ys.length ≤ sizeLine then some (O.d (.tup (xs ++ ys))) else none) = _
  rw [if_pos h2]
theorem repD_n {k : Nat} {ds : List D} : repD (k : Int) ds = (List.replicate k ds).flatten := by unfold repD; rw [Int.toNat_natCast]
theorem repD_1 {k : Nat} {x : D} : repD (k : Int) [x] = List.replicate k x := by
  rw [repD_n]
  induction k with
  | zero => rfl
  | succ k ih => rw [List.replicate_succ, List.flatten_cons, ih, List.replicate_succ]; rfl
theorem tp_rep {xs : List D} {k : Int} (h : -(2 ^ 63) ≤ k) (h1 : k ≤ 1000) (h2 : xs.length ≤ 1000) : fMul (.d (.tup xs)) (.d (.int k)) = some (.d (.tup (repD k xs))) := by
  show fRepT (.d (.tup xs)) (.d (.int k)) = _
  show (if -(2 ^ 63) ≤ k ∧ k ≤ 1000 ∧ xs.length ≤ 1000 then some (O.d (.tup (repD k xs))) else none) = _
  rw [if_pos ⟨h, h1, h2⟩]
theorem tp_rep1 {x : D} {k : Nat} (h1 : k ≤ 1000) : fMul (.d (.tup [x])) (.d (.int (k : Int))) = some (.d (.tup (List.replicate k x))) := by
  rw [tp_rep (by omega) (by omega) (by show 1 ≤ 1000; omega), repD_1]
theorem ix_tp {xs : List D} {k : Nat} {x : D} (h : xs[k]? = some x) : fIx (.d (.tup xs)) (.d (.int (k : Int))) = some (.d x) := by
  have := ixT_map (f := id) h
  rwa [List.map_id] at this
theorem ix_ls {xs : List D} {k : Nat} {x : D} (h : xs[k]? = some x) : fIx (.d (.lst xs)) (.d (.int (k : Int))) = some (.d x) := by
  show (match fIxL (.d (.lst xs)) (.d (.int (k : Int))) with
    | some z => some z
    | none => _) = _
  have e : fIxL (.d (.lst xs)) (.d (.int (k : Int))) = some (.d x) := by
    show (atI xs (k : Int)).map O.d = _
    rw [atI_nat h]; rfl
  rw [e]
theorem ix_lo {xs : List D} {k : Nat} {x : D} (h : xs[k]? = some x) : fIx (.lst (xs.map .d)) (.d (.int (k : Int))) = some (.d x) := ixL_map xs k x h
theorem ix_lm {α : Type} {l : List α} {f : α → D} {k : Nat} {x : α} (h : l[k]? = some x) : fIx (.lst (l.map fun x => .d (f x))) (.d (.int (k : Int))) = some (.d (f x)) := by
  have := ix_lo (xs := l.map f) (k := k) (x := f x) (by rw [List.getElem?_map, h]; rfl)
  rwa [List.map_map] at this
theorem leafs_m {α : Type} {l : List α} {f : α → D} : leafs (l.map fun x => O.d (f x)) = some (l.map f) := by
  have := leafs_map (l.map f)
  rwa [List.map_map] at this
theorem tup_m {α : Type} {l : List α} {f : α → D} : on1 fTuple [.lst (l.map fun x => .d (f x))] = some (.d (.tup (l.map f))) := by
  show ((leafs (l.map fun x => O.d (f x))).map fun ds => O.d (.tup ds)) = _
  rw [leafs_m]; rfl
theorem sum_m {α : Type} {l : List α} {f : α → Int} : on1 fSum [.lst (l.map fun x => .d (.int (f x)))] = some (.d (.int (l.map f).sum)) := by
  show ((leafs (l.map fun x => O.d (.int (f x)))).bind intsD).map (fun ns => O.d (.int ns.sum)) = _
  rw [leafs_m (f := fun x => D.int (f x))]
  have := intsD_map (l.map f)
  rw [List.map_map] at this
  show (intsD (l.map (D.int ∘ f))).map _ = _
  rw [this]; rfl
theorem boolsD_map : ∀ bs : List Bool, boolsD (bs.map D.bl) = some bs
  | [] => rfl
  | b :: bs => by show (boolsD (bs.map D.bl)).map (b :: ·) = _; rw [boolsD_map bs]; rfl
theorem all_m {α : Type} {l : List α} {f : α → Bool} : on1 fAll [.lst (l.map fun x => .d (.bl (f x)))] = some (.d (.bl (l.all f))) := by
  show ((leafs (l.map fun x => O.d (.bl (f x)))).bind fun ds => (boolsD ds).map fun bs => O.d (.bl (bs.all id))) = _
  rw [leafs_m (f := fun x => D.bl (f x))]
  have := boolsD_map (l.map f)
  rw [List.map_map] at this
  show (boolsD (l.map (D.bl ∘ f))).map _ = _
  rw [this]
  show some (O.d (.bl ((l.map f).all id))) = _
  rw [List.all_map]; rfl
theorem ls_cat {xs ys : List D} (h : xs.length + ys.length ≤ 1000000) : fAdd (.lst (xs.map .d)) (.lst (ys.map .d)) = some (.lst ((xs ++ ys).map .d)) := by
  have h2 : xs.length + ys.length ≤ sizeLine := Nat.le_trans h (by decide)
  show (match fCat (.lst (xs.map .d)) (.lst (ys.map .d)) with
    | some z => some z
    | none => _) = _
  have e : fCat (.lst (xs.map .d)) (.lst (ys.map .d)) = some (.lst ((xs ++ ys).map .d)) := by
    unfold fCat
    show (match leafs (xs.map O.d), leafs (ys.map O.d) with
      | some xs, some ys => if xs.length + ys.length ≤ sizeLine then some (O.lst ((xs ++ ys).map .d)) else none
      | _, _ => none) = _
    rw [leafs_map, leafs_map]
    simp only [if_pos h2]
  rw [e]
theorem ls_rep {xs : List D} {k : Int} (h : -(2 ^ 63) ≤ k) (h1 : k < 2 ^ 63) (h2 : xs.length * k.toNat ≤ 1000000) : fMul (.lst (xs.map .d)) (.d (.int k)) = some (.lst ((repD k xs).map .d)) := by
  have h3 : xs.length * k.toNat ≤ sizeLine := Nat.le_trans h2 (by decide)
  have e : fRepL (.lst (xs.map .d)) (.d (.int k)) = some (.lst ((repD k xs).map .d)) := by
    show (match leafs (xs.map O.d) with
      | some ds => if -(2 ^ 63) ≤ k ∧ k < 2 ^ 63 ∧ ds.length * k.toNat ≤ sizeLine then some (O.lst ((repD k ds).map .d)) else none
      | none => none) = _
    rw [leafs_map]
    simp only [if_pos (show -(2 ^ 63) ≤ k ∧ k < 2 ^ 63 ∧ xs.length * k.toNat ≤ sizeLine from ⟨h, h1, h3⟩)]
  show (match fRepL (.lst (xs.map .d)) (.d (.int k)) with
    | some z => some z
    | none => _) = _
  rw [e]
theorem lc_sta {α σ : Type} {vs : List Nat} {t : Tg} {el : En → Rs O} {f : α → O} {E : σ → En} {I : σ → Prop} {Q : α → Prop} : ∀ (ds : List D) (acc : List O) (s : σ), I s →
    (∀ d ∈ ds, ∀ s, I s → ∃ e1 e2 x s', t (.d d) (E s) = some e1 ∧ el e1 = .ok (f x) e2 ∧ wipeE e2 vs = E s' ∧ I s' ∧ Q x) → acc.length + ds.length ≤ 2000 →
    ∃ (l : List α) (s' : σ), lcL vs t dYes el ds acc (E s) = .ok (.lst (acc ++ l.map f)) (E s') ∧ I s' ∧ l.length = ds.length ∧ ∀ x ∈ l, Q x
  | [], acc, s, hi, _, _ => ⟨[], s, by rw [List.map_nil, List.append_nil]; rfl, hi, rfl, by simp⟩
  | d :: ds, acc, s, hi, h, hz => by
    obtain ⟨e1, e2, x, s1, h1, h2, h3, i1, q1⟩ := h d List.mem_cons_self s hi
    rw [List.length_cons] at hz
    obtain ⟨l, s2, k, i2, hl, hq⟩ := lc_sta (vs := vs) (t := t) (el := el) ds (acc ++ [f x]) s1 i1 (fun d hd => h d (List.mem_cons_of_mem _ hd)) (by rw [List.length_append, List.length_singleton]; omega)
    refine ⟨x :: l, s2, ?_, i2, by rw [List.length_cons, List.length_cons, hl], fun y hy => ?_⟩
    · have hz2 : acc.length < sizeLine := Nat.lt_of_lt_of_le (m := 2000) (by omega) (by decide)
      unfold lcL
      rw [h1]
      show (match el e1 with
        | .ok o e3 => if acc.length < sizeLine then lcL vs t dYes el ds (acc ++ [o]) (wipeE e3 vs) else .bad
        | _ => .bad) = _
      rw [h2]
      show (if acc.length < sizeLine then lcL vs t dYes el ds (acc ++ [f x]) (wipeE e2 vs) else .bad) = _
      rw [if_pos hz2, h3, k, List.append_assoc]
      rfl
    · rcases List.mem_cons.mp hy with e | e
      · rw [e]; exact q1
      · exact hq y e
theorem lc_st {α σ : Type} {vs : List Nat} {t : Tg} {el : En → Rs O} {f : α → O} {E : σ → En} {I : σ → Prop} {Q : α → Prop} (ds : List D) (hz : ds.length ≤ 2000) (s : σ) (hi : I s)
    (h : ∀ d ∈ ds, ∀ s, I s → ∃ e1 e2 x s', t (.d d) (E s) = some e1 ∧ el e1 = .ok (f x) e2 ∧ wipeE e2 vs = E s' ∧ I s' ∧ Q x) :
    ∃ (l : List α) (s' : σ), lcL vs t dYes el ds [] (E s) = .ok (.lst (l.map f)) (E s') ∧ I s' ∧ l.length = ds.length ∧ ∀ x ∈ l, Q x := by
  obtain ⟨l, s', k, r⟩ := lc_sta ds [] s hi h (by rw [List.length_nil]; omega)
  rw [List.nil_append] at k
  exact ⟨l, s', k, r⟩
theorem lc_m {α : Type} {vs : List Nat} {t : Tg} {el : En → Rs O} {f : α → D} {g : α → O} {e : En} : ∀ (l : List α) (_ : l.length ≤ 2000)
    (_ : ∀ k ∈ l, ∃ e1, t (.d (f k)) e = some e1 ∧ el e1 = .ok (g k) e1 ∧ wipeE e1 vs = e), lcL vs t dYes el (l.map f) [] e = .ok (.lst (l.map g)) e := by
  have gen : ∀ (l : List α) (acc : List O), (∀ k ∈ l, ∃ e1, t (.d (f k)) e = some e1 ∧ el e1 = .ok (g k) e1 ∧ wipeE e1 vs = e) → acc.length + l.length ≤ 2000 → lcL vs t dYes el (l.map f) acc e = .ok (.lst (acc ++ l.map g)) e := by
    intro l
    induction l with
    | nil => exact fun acc _ _ => by rw [List.map_nil (f := g), List.append_nil]; rfl
    | cons k l ih =>
      intro acc h hz
      obtain ⟨e1, h1, h2, h3⟩ := h k List.mem_cons_self
      rw [List.length_cons] at hz
      have hz2 : acc.length < sizeLine := Nat.lt_of_lt_of_le (m := 2000) (by omega) (by decide)
      rw [List.map_cons]
      unfold lcL
      rw [h1]
      show (match el e1 with
        | .ok o e3 => if acc.length < sizeLine then lcL vs t dYes el (l.map f) (acc ++ [o]) (wipeE e3 vs) else .bad
        | _ => .bad) = _
      rw [h2]
      show (if acc.length < sizeLine then lcL vs t dYes el (l.map f) (acc ++ [g k]) (wipeE e1 vs) else .bad) = _
      rw [if_pos hz2, h3, ih (acc ++ [g k]) (fun x hx => h x (List.mem_cons_of_mem _ hx)) (by rw [List.length_append, List.length_singleton]; omega), List.append_assoc]
      rfl
  intro l hz h
  have := gen l [] h (by rw [List.length_nil]; omega)
  rwa [List.nil_append] at this
theorem nin_tup (v : Int) (l : List Nat) : fNinU (.d (.int v)) (.d (.tup (l.map di))) = some (.d (.bl (!memI v l))) := by
  have e : din (.d (.int v)) (.d (.tup (l.map di))) = some (memI v l) := by
    show (match (D.int v).flat, flats (l.map di) with
      | some v, some vs => some (inV v vs)
      | _, _ => none) = _
    rw [flats_di]
    show some (inV (.int v) _) = _
    rw [inV_di]
  have e2 : fNin (.d (.int v)) (.d (.tup (l.map di))) = some (.d (.bl (!memI v l))) := by unfold fNin; rw [e]; rfl
  unfold fNinU
  rw [e2]
theorem idx_len {a m : Nat} : (idx a m).length = m := by unfold idx; rw [List.length_map, List.length_range']
end MX
namespace LA
abbrev Row := List Int
def gt (r : Row) (j : Nat) : Int := r.getD j 0
def dt : Nat → (Nat → Int) → (Nat → Int) → Int
  | 0, _, _ => 0
  | w + 1, r, x => dt w r x + r w * x w
theorem dt_zero {w : Nat} {r x : Nat → Int} (h : ∀ j, j < w → r j * x j = 0) : dt w r x = 0 := by
  induction w with
  | zero => rfl
  | succ w ih =>
    show dt w r x + r w * x w = 0
    rw [ih fun j hj => h j (by omega), h w (by omega)]; rfl
theorem dt_one {w : Nat} {r x : Nat → Int} {a : Nat} (ha : a < w) (h : ∀ j, j < w → j ≠ a → r j * x j = 0) : dt w r x = r a * x a := by
  induction w with
  | zero => omega
  | succ w ih =>
    show dt w r x + r w * x w = _
    by_cases c : a = w
    · subst c
      rw [dt_zero fun j hj => h j (by omega) (by omega)]; omega
    · rw [ih (by omega) fun j hj => h j (by omega), h w (by omega) (by omega)]; omega
theorem dt_ext {w : Nat} {a b x y : Nat → Int} (h : ∀ j, j < w → a j = b j) (h2 : ∀ j, j < w → x j = y j) : dt w a x = dt w b y := by
  induction w with
  | zero => rfl
  | succ w ih =>
    show dt w a x + a w * x w = dt w b y + b w * y w
    rw [ih (fun j hj => h j (by omega)) (fun j hj => h2 j (by omega)), h w (by omega), h2 w (by omega)]
def Sol (q : Int) (w : Nat) (R : List Row) (x : Nat → Int) : Prop := ∀ r ∈ R, q ∣ dt w (gt r) x
structure Wr (q : Int) (w : Nat) (r : Row) : Prop where
  len : r.length = w
  lo : ∀ a ∈ r, 0 ≤ a ∧ a < q
structure Rref (q : Int) (w : Nat) (L : List Row) (P : List Nat) : Prop where
  len : L.length = P.length
  wr : ∀ r ∈ L, Wr q w r
  inc : P.Pairwise (· < ·)
  lt : ∀ p ∈ P, p < w
  before : ∀ (i : Nat) (r : Row) (p : Nat), L[i]? = some r → P[i]? = some p → ∀ j, j < p → gt r j = 0
  lead : ∀ (i k : Nat) (r : Row) (p : Nat), L[i]? = some r → P[k]? = some p → gt r p = if i = k then 1 else 0
section
variable {q : Int} {w : Nat} {L : List Row} {P : List Nat}
def kv (L : List Row) (P : List Nat) (c : Nat) : Nat → Int := fun j => if j = c then 1 else if j ∈ P then - gt (L.getD (P.idxOf j) []) c else 0
theorem Rref.nodup (h : Rref q w L P) : P.Nodup := h.inc.imp fun h => by omega
theorem Rref.idx (h : Rref q w L P) {i p : Nat} (hp : P[i]? = some p) : P.idxOf p = i := by
  have hi : i < P.length := by
    rcases Nat.lt_or_ge i P.length with g | g
    · exact g
    · rw [List.getElem?_eq_none g] at hp; cases hp
  rw [List.getElem?_eq_getElem hi] at hp
  have : P[i] = p := Option.some.inj hp
  subst this
  exact h.nodup.idxOf_getElem i hi
theorem Rref.rowAt (h : Rref q w L P) {i p : Nat} (hp : P[i]? = some p) : ∃ r, L[i]? = some r := by
  have hi : i < P.length := by
    rcases Nat.lt_or_ge i P.length with g | g
    · exact g
    · rw [List.getElem?_eq_none g] at hp; cases hp
  exact ⟨L[i]'(by rw [h.len]; exact hi), List.getElem?_eq_getElem (by rw [h.len]; exact hi)⟩
theorem Rref.leadAt (h : Rref q w L P) {i : Nat} {r : Row} (hr : L[i]? = some r) : ∃ p, P[i]? = some p := by
  have hi : i < L.length := by
    rcases Nat.lt_or_ge i L.length with g | g
    · exact g
    · rw [List.getElem?_eq_none g] at hr; cases hr
  exact ⟨P[i]'(by rw [← h.len]; exact hi), List.getElem?_eq_getElem (by rw [← h.len]; exact hi)⟩
end
end LA
namespace LA
def opr (q f : Int) (r p : Row) : Row := List.zipWith (fun a b => (a - f * b) % q) r p
theorem gt_at {r : Row} {j : Nat} (h : j < r.length) : gt r j = r[j] := by
  unfold gt; rw [List.getD_eq_getElem?_getD, List.getElem?_eq_getElem h]; rfl
theorem getD_row {R : List Row} {k : Nat} {r : Row} (h : R[k]? = some r) : R.getD k [] = r := by rw [List.getD_eq_getElem?_getD, h]; rfl
structure RInv (q : Int) (w c : Nat) (R : List Row) (P : List Nat) : Prop where
  wr : ∀ r ∈ R, Wr q w r
  pl : P.length ≤ R.length
  inc : P.Pairwise (· < ·)
  lt : ∀ p ∈ P, p < c
  before : ∀ (i : Nat) (r : Row) (p : Nat), R[i]? = some r → P[i]? = some p → ∀ j, j < p → gt r j = 0
  lead : ∀ (i k : Nat) (r : Row) (p : Nat), R[i]? = some r → P[k]? = some p → gt r p = if i = k then 1 else 0
  zero : ∀ (i : Nat) (r : Row), R[i]? = some r → P.length ≤ i → ∀ j, j < c → gt r j = 0
theorem RInv.start {q : Int} {w : Nat} {R : List Row} (h : ∀ r ∈ R, Wr q w r) : RInv q w 0 R [] := by
  refine ⟨h, Nat.zero_le _, List.Pairwise.nil, fun _ h => ?_, fun i r p _ h => ?_, fun i k r p _ h => ?_, fun i r _ _ j hj => ?_⟩
  · cases h
  · simp at h
  · simp at h
  · omega
end LA
namespace LA
open MX (swpL swpL_ok)
theorem Sol.perm {q : Int} {w : Nat} {R S : List Row} (h : R.Perm S) (x : Nat → Int) : Sol q w R x ↔ Sol q w S x := ⟨fun g r hr => g r (h.mem_iff.mpr hr), fun g r hr => g r (h.mem_iff.mp hr)⟩
end LA
namespace MX
open PySem L2 LA
@[simp] theorem ns_v {e : En} {k : Nat} : nS k e = match slot e k with
  | some (.d (.int i)) => some i
  | _ => none := Eq.trans rfl rfl
end MX
namespace LA
end LA
namespace MX
open PySem L2 LA
theorem sif_t {d : En → Rs Bool} {a b : En → Out} {e e1 : En} {R : Out} (h : d e = .ok true e1) (k : a e1 = R) : sIf d a b e = R := by rw [z44, h]; exact k
theorem sif_f {d : En → Rs Bool} {a b : En → Out} {e e1 : En} {R : Out} (h : d e = .ok false e1) (k : b e1 = R) : sIf d a b e = R := by rw [z44, h]; exact k
theorem zip_m {α β : Type} {f : α → D} {g : β → D} : ∀ (l : List α) (k : List β), zipL (l.map f) (k.map g) = (l.zip k).map fun p => .tup [f p.1, g p.2]
  | [], _ => by simp [zipL]
  | a :: l, [] => by simp [zipL]
  | a :: l, b :: k => by
    show D.tup [f a, g b] :: zipL (l.map f) (k.map g) = _
    rw [zip_m l k]; rfl
theorem fSl_l {α : Type} {f : α → D} {l : List α} {j : Nat} : fSl (.d (.lst (l.map f))) none (some (j : Int)) = some (.lst ((l.take j).map fun v => .d (f v))) := by
  have e : ((l.take j).map fun v => O.d (f v)) = (l.take j).map (O.d ∘ f) := rfl
  rw [e, ← List.map_map, List.map_take]
  show some (O.lst ((cutD (l.map f) none (some (j : Int))).map .d)) = _
  rw [cut_toN]
@[simp] theorem fzs_m {α : Type} {f : α → D} : ∀ {l : List α}, fzs (l.map fun v => O.d (f v)) = l.map f
  | [] => rfl
  | a :: l => by rw [List.map_cons, z101, fzs_m (l := l)]; rfl
@[simp] theorem gz_ll {a b : List D} : gZip [.lst a, .lst b] = some (zipL a b) := Eq.trans rfl rfl
@[simp] theorem gz_lt {a b : List D} : gZip [.lst a, .tup b] = some (zipL a b) := Eq.trans rfl rfl
@[simp] theorem gz_tl {a b : List D} : gZip [.tup a, .lst b] = some (zipL a b) := Eq.trans rfl rfl
@[simp] theorem gz_tt {a b : List D} : gZip [.tup a, .tup b] = some (zipL a b) := Eq.trans rfl rfl
end MX
namespace LA
section
variable {q : Int} {w : Nat} {L : List Row} {P : List Nat}
def solL (w : Nat) (L : List Row) (P : List Nat) : Row := (List.range w).map fun j => if j ∈ P then gt (L.getD (P.idxOf j) []) w else 0
theorem gt_map {f : Nat → Int} {j : Nat} (h : j < w) : gt ((List.range w).map f) j = f j := by
  rw [gt_at (by rw [List.length_map, List.length_range]; exact h), List.getElem_map, List.getElem_range]
def cl (q : Int) (c : Nat) (p r : Row) : Row := opr q (gt r c) r p
end
end LA
namespace MX
open PySem L2 LA
theorem lc_mf {α : Type} {vs : List Nat} {t : Tg} {c : En → Rs Bool} {el : En → Rs O} {f : α → D} {g : α → O} {P : α → Bool} {e : En} (l : List α) (hz : l.length ≤ 2000)
    (h : ∀ k ∈ l, ∃ e1, t (.d (f k)) e = some e1 ∧ c e1 = .ok (P k) e1 ∧ (P k = true → el e1 = .ok (g k) e1) ∧ wipeE e1 vs = e) : lcL vs t c el (l.map f) [] e = .ok (.lst ((l.filter P).map g)) e := by
  have gen : ∀ (l : List α) (acc : List O), (∀ k ∈ l, ∃ e1, t (.d (f k)) e = some e1 ∧ c e1 = .ok (P k) e1 ∧ (P k = true → el e1 = .ok (g k) e1) ∧ wipeE e1 vs = e) → acc.length + l.length ≤ 2000 → lcL vs t c el (l.map f) acc e = .ok (.lst (acc ++ (l.filter P).map g)) e := by
    intro l
    induction l with
    | nil => exact fun acc _ _ => by rw [List.filter_nil, List.map_nil (f := g), List.append_nil]; rfl
    | cons k l ih =>
      intro acc h hz
      obtain ⟨e1, h1, h2, h3, h4⟩ := h k List.mem_cons_self
      rw [List.length_cons] at hz
      have hz2 : acc.length < sizeLine := Nat.lt_of_lt_of_le (m := 2000) (by omega) (by decide)
      rw [List.map_cons]
      unfold lcL
      by_cases hp : P k = true
      · rw [hp] at h2
        simp only [h1, h2, h3 hp, h4, if_pos hz2, ih (acc ++ [g k]) (fun x hx => h x (List.mem_cons_of_mem _ hx)) (by rw [List.length_append, List.length_singleton]; omega)]
        rw [List.filter_cons_of_pos hp, List.map_cons, List.append_assoc]
        rfl
      · rw [Bool.not_eq_true] at hp
        rw [hp] at h2
        simp only [h1, h2, h4, ih acc (fun x hx => h x (List.mem_cons_of_mem _ hx)) (by omega)]
        rw [List.filter_cons_of_neg (by rw [hp]; decide)]
  have := gen l [] h (by rw [List.length_nil]; omega)
  rwa [List.nil_append] at this
end MX
namespace LA
section
variable {q : Int} {w : Nat} {L : List Row} {P : List Nat}
def ex (w : Nat) (x : Nat → Int) (a : Int) : Nat → Int := fun j => if j = w then a else x j
theorem dt_ex (r x : Nat → Int) (a : Int) : dt (w + 1) r (ex w x a) = dt w r x + r w * a := by
  show dt w r (ex w x a) + r w * ex w x a w = _
  rw [dt_ext (a := r) (b := r) (x := ex w x a) (y := x) (fun _ _ => rfl) (fun j hj => by unfold ex; rw [if_neg (by omega)])]
  unfold ex; rw [if_pos rfl]
theorem Rref.solL_sol (h : Rref q (w + 1) L P) (hn : w ∉ P) : Sol q (w + 1) L (ex w (gt (solL w L P)) (-1)) := fun r hr => by
  obtain ⟨i, hi⟩ := List.getElem?_of_mem hr
  obtain ⟨p, hp⟩ := h.leadAt hi
  have pw : p < w := by
    have := h.lt p (List.mem_of_getElem? hp)
    have : p ≠ w := fun e => hn (e ▸ List.mem_of_getElem? hp)
    omega
  rw [dt_ex, dt_one (a := p) pw (fun j hj hjp => by
    unfold solL
    rw [gt_map hj]
    by_cases hjP : j ∈ P
    · obtain ⟨k, hk⟩ := List.getElem?_of_mem hjP
      rw [h.lead i k r j hi hk, if_neg (fun e => by
        subst e
        rw [hp] at hk
        exact hjp (Option.some.inj hk).symm), Int.zero_mul]
    · rw [if_neg hjP, Int.mul_zero]), h.lead i i r p hi hp, if_pos rfl]
  unfold solL
  rw [gt_map pw, if_pos (List.mem_of_getElem? hp), h.idx hp, getD_row hi]
  exact ⟨0, by omega⟩
theorem Rref.no_sol (h : Rref q (w + 1) L P) (hq : 1 < q) (hn : w ∈ P) (x : Nat → Int) : ¬ Sol q (w + 1) L (ex w x (-1)) := fun g => by
  obtain ⟨i, hi⟩ := List.getElem?_of_mem hn
  obtain ⟨r, hr⟩ := h.rowAt hi
  have d := g r (List.mem_of_getElem? hr)
  rw [dt_ex, dt_zero (fun j hj => by rw [h.before i r w hr hi j hj, Int.zero_mul]), h.lead i i r w hr hi, if_pos rfl] at d
  have d2 := Int.dvd_neg.mpr d
  have := Int.le_of_dvd (by omega) d2
  omega
end
end LA
namespace LA
def nI (r : List Nat) : Row := r.map fun (i : Nat) => (i : Int)
def scN (q v : Nat) (r : List Nat) : List Nat := r.map fun e => e * v % q
structure Lf (q w : Nat) (R : List (List Nat)) (t : List Nat) : Prop where
  w64 : w ≤ 64
  m65 : R.length ≤ 65
  len : ∀ r ∈ R, r.length = w
  lt : ∀ r ∈ R, ∀ e ∈ r, e < q
  tl : t.length = R.length
  tq : ∀ e ∈ t, e < q
section
variable {q w : Nat} {R : List (List Nat)} {t : List Nat} (h : Lf q w R t)
include h
theorem Lf.sc {v : Nat} (q0 : 0 < q) : Lf q w (R.map (scN q v)) (scN q v t) := by
  refine ⟨h.w64, by rw [List.length_map]; exact h.m65, fun r hr => ?_, fun r hr e he => ?_, by unfold scN; rw [List.length_map, List.length_map]; exact h.tl, fun e he => ?_⟩
  · obtain ⟨s, hs, rfl⟩ := List.mem_map.mp hr
    unfold scN
    rw [List.length_map, h.len s hs]
  · obtain ⟨s, hs, rfl⟩ := List.mem_map.mp hr
    obtain ⟨x, _, rfl⟩ := List.mem_map.mp he
    exact Nat.mod_lt _ q0
  · obtain ⟨x, _, rfl⟩ := List.mem_map.mp he
    exact Nat.mod_lt _ q0
end
end LA
namespace MX
open PySem L2 LA
inductive Tr where
  | lf (w : Nat) (R : List (List Nat)) (t : List Nat)
  | nd (need : Int) (ks : List Tr)
def ga (l : List Nat) (i : Nat) : Nat := l.getD i 0
inductive WT (q : Nat) : Nat → Tr → Prop
  | lf {k w : Nat} {R : List (List Nat)} {t : List Nat} : Lf q w R t → WT q (k + 1) (.lf w R t)
  | nd {k : Nat} {n : Int} {ks : List Tr} : ks.length ≤ 64 → (∀ t ∈ ks, WT q k t) → WT q (k + 1) (.nd n ks)
theorem WT.mono {q : Nat} : ∀ {k m : Nat} {T : Tr}, k ≤ m → WT q k T → WT q m T
  | 0, _, _, _, h => by cases h
  | k + 1, 0, _, h, _ => by omega
  | k + 1, m + 1, _, hk, .lf h => .lf h
  | k + 1, m + 1, _, hk, .nd h1 h2 => .nd h1 fun t ht => (h2 t ht).mono (by omega)
end MX
namespace MX
open PySem L2 LA
def lsD (r : Row) : D := .lst (r.map D.int)
theorem nI_idx {a : List Nat} {x : Nat} : (nI a).idxOf (x : Int) = a.idxOf x := by
  unfold nI
  induction a with
  | nil => rfl
  | cons y a ih =>
    rw [List.map_cons, List.idxOf_cons, List.idxOf_cons, ih]
    have : ((y : Int) == (x : Int)) = (y == x) := by rw [Bool.eq_iff_iff]; simp; omega
    rw [this]
end MX
namespace LA
end LA
namespace LA
open MX
end LA
namespace MX
open PySem L2 LA
end MX
namespace LA
end LA
namespace MX
open PySem L2
mutual
def plsB : Nat → D → Bool
  | 0, _ => false
  | _ + 1, .non => true
  | _ + 1, .bl _ => true
  | _ + 1, .int _ => true
  | _ + 1, .str s => PyData.strOk s
  | k + 1, .tup xs => decide (xs.length ≤ 1000) && plssB k xs
  | k + 1, .lst xs => decide (xs.length ≤ 1000) && plssB k xs
  | _ + 1, _ => false
def plssB : Nat → List D → Bool
  | _, [] => true
  | k, x :: xs => plsB k x && plssB k xs
end
theorem plssB_all {k : Nat} : ∀ {xs : List D}, plssB k xs = true ↔ ∀ x ∈ xs, plsB k x = true
  | [] => by simp [plssB]
  | x :: xs => by simp [plssB, plssB_all]
theorem ps_tup {k : Nat} {xs : List D} : plsB (k + 1) (.tup xs) = true ↔ xs.length ≤ 1000 ∧ ∀ x ∈ xs, plsB k x = true := by simp [plsB, plssB_all]
theorem ps_lst {k : Nat} {xs : List D} : plsB (k + 1) (.lst xs) = true ↔ xs.length ≤ 1000 ∧ ∀ x ∈ xs, plsB k x = true := by simp [plsB, plssB_all]
mutual
theorem py_pl : ∀ (k : Nat) (x : D), plsB k x = true → ∃ p, x.py = some p ∧ p.canLay0 = true ∧ p.depth ≤ k
  | 0, _, h => by simp [plsB] at h
  | k + 1, .non, _ => ⟨.none, rfl, by simp [PyData.canLay0], by simp [PyData.depth]⟩
  | k + 1, .bl b, _ => ⟨.bool b, rfl, by simp [PyData.canLay0], by simp [PyData.depth]⟩
  | k + 1, .int b, _ => ⟨.int b, rfl, by simp [PyData.canLay0], by simp [PyData.depth]⟩
  | k + 1, .str b, h => ⟨.str b, rfl, by simp [PyData.canLay0]; simpa [plsB] using h, by simp [PyData.depth]⟩
  | k + 1, .tup xs, h => by
    obtain ⟨ps, h1, h2, h3, h4⟩ := pys_pl k xs (ps_tup.mp h).2
    exact ⟨.tuple ps, by show (pys xs).map PyData.tuple = _; rw [h1]; rfl, by simp [PyData.canLay0, h2], by simp [PyData.depth]; omega⟩
  | k + 1, .lst xs, h => by
    obtain ⟨ps, h1, h2, h3, h4⟩ := pys_pl k xs (ps_lst.mp h).2
    exact ⟨.list ps, by show (pys xs).map PyData.list = _; rw [h1]; rfl, by simp [PyData.canLay0, h2], by simp [PyData.depth]; omega⟩
  | k + 1, .obj _ _ _, h => by simp [plsB] at h
  | k + 1, .dic _ _, h => by simp [plsB] at h
theorem pys_pl : ∀ (k : Nat) (xs : List D), (∀ x ∈ xs, plsB k x = true) → ∃ ps, pys xs = some ps ∧ PyData.canLayAll0 ps = true ∧ PyData.depthAll ps ≤ k ∧ ps.length = xs.length
  | k, [], _ => ⟨[], rfl, by simp [PyData.canLayAll0], by simp [PyData.depthAll], rfl⟩
  | k, x :: xs, h => by
    obtain ⟨p, a1, a2, a3⟩ := py_pl k x (h x List.mem_cons_self)
    obtain ⟨ps, b1, b2, b3, b4⟩ := pys_pl k xs fun y hy => h y (List.mem_cons_of_mem _ hy)
    refine ⟨p :: ps, by simp [pys, a1, b1], by simp [PyData.canLayAll0, a2, b2], by simp [PyData.depthAll]; omega, by simp [b4]⟩
end
theorem fSl_o {α : Type} {f : α → D} {l : List α} {j : Nat} : fSl (.lst (l.map fun v => .d (f v))) none (some (j : Int)) = some (.lst ((l.take j).map fun v => .d (f v))) := by
  show (match (fSlL (.lst (l.map fun v => .d (f v))) none (some (j : Int))) with
    | some z => some z
    | none => _) = _
  unfold fSlL
  have e : (O.lst (l.map fun v => .d (f v))).ls = some (l.map f) := leafs_m
  rw [e]
  show some (O.lst ((cutD (l.map f) none (some (j : Int))).map .d)) = _
  rw [cut_toN, ← List.map_take, List.map_map]
  rfl
@[simp] theorem ord10 {α : Type} {a b : α} : ord [1, 0] [a, b] = [b, a] := Eq.trans rfl rfl
@[simp] theorem ord021 {α : Type} {a b c : α} : ord [0, 2, 1] [a, b, c] = [a, c, b] := Eq.trans rfl rfl
@[simp] theorem ord102 {α : Type} {a b c : α} : ord [1, 0, 2] [a, b, c] = [b, a, c] := Eq.trans rfl rfl
@[simp] theorem ord120 {α : Type} {a b c : α} : ord [1, 2, 0] [a, b, c] = [b, c, a] := Eq.trans rfl rfl
@[simp] theorem ord201 {α : Type} {a b c : α} : ord [2, 0, 1] [a, b, c] = [c, a, b] := Eq.trans rfl rfl
@[simp] theorem ord210 {α : Type} {a b c : α} : ord [2, 1, 0] [a, b, c] = [c, b, a] := Eq.trans rfl rfl
end MX
namespace MX
open PySem L2
def tru1 (e1 : En) : Option Bool → Rs Bool
  | some b => .ok b e1
  | none => .bad
@[simp] theorem tru1s {e : En} {b : Bool} : tru1 e (some b) = .ok b e := Eq.trans rfl rfl
@[simp] theorem z_tru {d : En → Rs O} {e : En} : dTru d e = (d e).bind fun o e1 => tru1 e1 (tru o) := by
  unfold dTru
  congr 1
def tru2 (b : En → Rs O) (o : O) (e1 : En) : Option Bool → Rs O
  | some true => .ok o e1
  | some false => b e1
  | none => .bad
@[simp] theorem tru2t {b : En → Rs O} {o : O} {e : En} : tru2 b o e (some true) = .ok o e := Eq.trans rfl rfl
@[simp] theorem tru2f {b : En → Rs O} {o : O} {e : En} : tru2 b o e (some false) = b e := Eq.trans rfl rfl
@[simp] theorem z_orG {a b : En → Rs O} {e : En} : dOrG a b e = (a e).bind fun o e1 => tru2 b o e1 (tru o) := by
  unfold dOrG
  congr 1
def tru3 (b : En → Rs O) (o : O) (e1 : En) : Option Bool → Rs O
  | some true => b e1
  | some false => .ok o e1
  | none => .bad
@[simp] theorem tru3t {b : En → Rs O} {o : O} {e : En} : tru3 b o e (some true) = b e := Eq.trans rfl rfl
@[simp] theorem tru3f {b : En → Rs O} {o : O} {e : En} : tru3 b o e (some false) = .ok o e := Eq.trans rfl rfl
@[simp] theorem z_andG {a b : En → Rs O} {e : En} : dAndG a b e = (a e).bind fun o e1 => tru3 b o e1 (tru o) := by
  unfold dAndG
  congr 1
@[simp] theorem z_notG {a : En → Rs O} {e : En} : dNotG a e = (dTru a e).bind fun k e1 => .ok (.d (.bl (!k))) e1 := Eq.trans rfl rfl
@[simp] theorem tru_non : tru (.d .non) = some false := Eq.trans rfl rfl
@[simp] theorem tru_bl {b : Bool} : tru (.d (.bl b)) = some b := Eq.trans rfl rfl
@[simp] theorem tru_int {i : Int} : tru (.d (.int i)) = some (i != 0) := Eq.trans rfl rfl
@[simp] theorem tru_lst {xs : List D} : tru (.d (.lst xs)) = some (!xs.isEmpty) := Eq.trans rfl rfl
@[simp] theorem tru_tup {xs : List D} : tru (.d (.tup xs)) = some (!xs.isEmpty) := Eq.trans rfl rfl
@[simp] theorem tru_ol {xs : List O} : tru (.lst xs) = some (!xs.isEmpty) := Eq.trans rfl rfl
end MX
namespace MX
open PySem L2 LA
end MX
namespace LA
open MX
end LA
namespace MX
open PySem L2 LA
theorem sl_tp (xs : List D) (a b : Option Int) : fSl (.d (.tup xs)) a b = some (.d (.tup (cutD xs a b))) := rfl
end MX
namespace MX
open PySem L2 LA
end MX
namespace LA
open MX
end LA
namespace LA
open MX
end LA
namespace LA
open MX
def pv : List Int → Int → Int
  | [], _ => 0
  | a :: l, x => a + x * pv l x
theorem dvd_md (q a : Int) : q ∣ a % q - a := by
  have := Int.emod_add_mul_ediv a q
  exact ⟨-(a / q), by rw [Int.mul_neg]; omega⟩
theorem dvd_eq {q a b : Int} (h : q ∣ a - b) : a % q = b % q := by
  obtain ⟨k, hk⟩ := h
  rw [show a = b + q * k by omega, Int.add_mul_emod_self_left]
def Inv (q : Int) : Prop := ∀ a : Int, ¬ q ∣ a → ∃ b, q ∣ a * b - 1
def dq : List Int → Int → List Int
  | [], _ => []
  | a :: l, r => pv (a :: l) r :: dq l r
structure Nw (q : Int) (pts : List (Int × Int)) (F P : List Int) : Prop where
  fl : F.length = pts.length
  pl : P.length = pts.length + 1
  fr : ∀ a ∈ F, 0 ≤ a ∧ a < q
  fv : ∀ p ∈ pts, q ∣ pv F p.1 - p.2
  pz : ∀ p ∈ pts, q ∣ pv P p.1
  pn : ∀ x, (∀ p ∈ pts, ¬ q ∣ x - p.1) → ¬ q ∣ pv P x
theorem Nw.nil {q : Int} (hq : 1 < q) : Nw q [] [] [1] where
  fl := rfl
  pl := rfl
  fr := by simp
  fv := by simp
  pz := by simp
  pn := fun x _ h => by
    have e : pv [1] x = 1 := by show 1 + x * 0 = 1; simp
    rw [e] at h
    have := Int.le_of_dvd (by omega) h
    omega
end LA
namespace MX
open PySem L2
def Fa2 {α β : Type} (R : α → β → Prop) : List α → List β → Prop
  | [], [] => True
  | a :: as, b :: bs => R a b ∧ Fa2 R as bs
  | _, _ => False
theorem Fa2.len {α β : Type} {R : α → β → Prop} : ∀ {l : List α} {m : List β}, Fa2 R l m → l.length = m.length
  | [], [], _ => rfl
  | _ :: _, _ :: _, h => by rw [List.length_cons, List.length_cons, Fa2.len h.2]
  | [], _ :: _, h => h.elim
  | _ :: _, [], h => h.elim
end MX
namespace MX
open PySem L2
mutual
def itbB : Nat → D → Bool
  | 0, _ => false
  | k + 1, .tup xs => decide (xs.length ≤ 1000) && itbsB k xs
  | _ + 1, .int _ => true
  | _ + 1, .str _ => true
  | _ + 1, .bl _ => true
  | _ + 1, .non => true
  | _ + 1, _ => false
def itbsB : Nat → List D → Bool
  | _, [] => true
  | k, x :: xs => itbB k x && itbsB k xs
end
theorem itbsB_all {k : Nat} : ∀ {xs : List D}, itbsB k xs = true ↔ ∀ x ∈ xs, itbB k x = true
  | [] => by simp [itbsB]
  | x :: xs => by simp [itbsB, itbsB_all (xs := xs)]
theorem itb_tup {k : Nat} {xs : List D} : itbB (k + 1) (.tup xs) = true ↔ xs.length ≤ 1000 ∧ ∀ x ∈ xs, itbB k x = true := by simp [itbB, itbsB_all]
end MX
namespace K01
open PySem L2 MX
theorem v_mixed (n k : Int) : ∃ r : Int, 0 ≤ r ∧ r < 2147483587 ∧ d__law_mixed [.d (.int n), .d (.int k)] = .ok (.d (.int r)) [some (.d (.int n)), some (.d (.int k))] := by
  have a1 : isSm 48271 = true := by decide
  have a2 : isSm 69621 = true := by decide
  have a3 : isSm 16807 = true := by decide
  have a4 : isSm 40692 = true := by decide
  have a5 : isSm 2 = true := by decide
  have b1 := Int.emod_nonneg (n * 48271 + k * 69621 + 97) (show (2147483647 : Int) ≠ 0 by decide)
  have b2 := Int.emod_lt_of_pos (n * 48271 + k * 69621 + 97) (show (0 : Int) < 2147483647 by decide)
  have m1 : (0 : Int) < 2147483647 := by decide
  have m2 : (0 : Int) < 2147483629 := by decide
  have m3 : (0 : Int) < 2147483587 := by decide
  generalize hf : (n * 48271 + k * 69621 + 97) % 2147483647 = f at *
  have sf : isSm f = true := sm_of (by omega) (by omega)
  generalize hs : (f * (f + 2 * k + 1) + k * 16807 + 31) % 2147483629 = s
  refine ⟨(s * 40692 + f) % 2147483587, Int.emod_nonneg _ (by decide), Int.emod_lt_of_pos _ m3, ?_⟩
  refine' R__law_mixed (e := _) ?_ ?_
  rotate_left 1
  · unfold b__law_mixed
    refine seqA (by simp [y16 a1, y16 a2, y17 m1, hf] <;> rfl) ?_
    simp only [MX.z7]
    refine seqA (by simp [y15 sf, y15 a5, y16 a3, y17 m2, hs] <;> rfl) ?_
    simp only [MX.z7]
    exact Eq.trans (by simp [y16 a4, y17 m3] <;> rfl) rfl
  · rfl
structure Sx where
  s0 : Int
  s1 : Nat
  s2 : Int
  s3 : Int
  s5 : Int
def stO (c : List Int) (S : Sx) : O := .lst [.d (.int S.s0), .d (.int S.s1), .d (.int S.s2), .d (.int S.s3), .d (.lst (c.map D.int)), .d (.int S.s5)]
section
variable (c : List Int) (a b x y z : Int)
abbrev sL (C : D) (s0 s1 s2 s3 s5 : Int) : O := .lst [.d (.int s0), .d (.int s1), .d (.int s2), .d (.int s3), .d C, .d (.int s5)]
theorem s_i0 (C : D) (s0 s1 s2 s3 s5 : Int) : fIx (sL C s0 s1 s2 s3 s5) (.d (.int 0)) = some (.d (.int s0)) := rfl
theorem s_i1 (C : D) (s0 s1 s2 s3 s5 : Int) : fIx (sL C s0 s1 s2 s3 s5) (.d (.int 1)) = some (.d (.int s1)) := rfl
theorem s_i2 (C : D) (s0 s1 s2 s3 s5 : Int) : fIx (sL C s0 s1 s2 s3 s5) (.d (.int 2)) = some (.d (.int s2)) := rfl
theorem s_i3 (C : D) (s0 s1 s2 s3 s5 : Int) : fIx (sL C s0 s1 s2 s3 s5) (.d (.int 3)) = some (.d (.int s3)) := rfl
theorem s_i4 (C : D) (s0 s1 s2 s3 s5 : Int) : fIx (sL C s0 s1 s2 s3 s5) (.d (.int 4)) = some (.d C) := rfl
theorem s_i5 (C : D) (s0 s1 s2 s3 s5 : Int) : fIx (sL C s0 s1 s2 s3 s5) (.d (.int 5)) = some (.d (.int s5)) := rfl
theorem s_t0 (C : D) (s0 s1 s2 s3 s5 v : Int) : (sL C s0 s1 s2 s3 s5).store (.d (.int 0)) (.d (.int v)) = some (sL C v s1 s2 s3 s5) := rfl
theorem s_t5 (C : D) (s0 s1 s2 s3 s5 v : Int) : (sL C s0 s1 s2 s3 s5).store (.d (.int 5)) (.d (.int v)) = some (sL C s0 s1 s2 s3 v) := rfl
theorem au1 (C : D) (s0 s1 s2 s3 s5 : Int) (P1 : Sl) (e : En) : sAugI 0 (vT (dC (.int 1))) (vT (dC (.int 1))) (fun i j => i + j) (.p (sL C s0 s1 s2 s3 s5) :: e) = .nx (.p (sL C s0 (s1 + 1) s2 s3 s5) :: e) := rfl
theorem au2 (C : D) (s0 s1 s2 s3 s5 : Int) (P1 : Sl) (e : En) : sAugI 0 (vT (dC (.int 2))) (vT (dC (.int 1))) (fun i j => i + j) (.p (sL C s0 s1 s2 s3 s5) :: e) = .nx (.p (sL C s0 s1 (s2 + 1) s3 s5) :: e) := rfl
theorem au5 (C : D) (s0 s1 s2 s3 s5 : Int) (P1 : Sl) (e : En) : sAugI 0 (vT (dC (.int 5))) (vT (dC (.int 1))) (fun i j => i - j) (.p (sL C s0 s1 s2 s3 s5) :: e) = .nx (.p (sL C s0 s1 s2 s3 (s5 - 1)) :: e) := rfl
end
theorem v_start (ns : List Int) (hn : ns.length ≤ 63) : ∃ z : Int, 0 ≤ z ∧ d__law_start [.d (.lst (ns.map D.int))] = .ok (stO ns ⟨0, 0, 0, z, 0⟩) [some (.d (.lst (ns.map D.int)))] := by
  have loop : ∀ (l : List Int) (s : Int) (s2 : Sl), 0 ≤ s → s2.pinned = false → ∃ (z : Int) (t2 : Sl), 0 ≤ z ∧ sForL (tName 2) l1__law_start (l.map D.int) [.p (.d (.lst (ns.map D.int))), .v (.d (.int s)), s2] = .nx [.p (.d (.lst (ns.map D.int))), .v (.d (.int z)), t2] := by
    intro l
    induction l with
    | nil => exact fun s s2 h _ => ⟨s, s2, h, u1⟩
    | cons x l ih =>
      intro s s2 h h2
      obtain ⟨r, r0, r1, k⟩ := v_mixed (s + x) 5
      obtain ⟨z, t2, z0, lp⟩ := ih r (.v (.d (.int x))) r0 rfl
      refine ⟨z, t2, z0, ?_⟩
      rw [List.map_cons, ← lp]
      generalize ns.map D.int = N at *
      generalize hq : s + x = y at *
      exact for_nx (e1 := [.p (.d (.lst N)), .v (.d (.int s)), .v (.d (.int x))]) (by simp [h2]) (by simp [hq, k])
  obtain ⟨z, t2, z0, lp⟩ := loop ns (ns.length : Int) .no (by omega) rfl
  have ck : cutD (ns.map D.int) none (some 63) = ns.map D.int := by
    have h1 := sl_tt (xs := ns.map D.int) (j := 63)
    rw [sl_tp] at h1
    have h2 : D.tup (cutD (ns.map D.int) none (some 63)) = D.tup ((ns.map D.int).take 63) := O.d.inj (Option.some.inj h1)
    rw [D.tup.inj h2, List.take_of_length_le (by rw [List.length_map]; exact hn)]
  have sl : fSl (.d (.lst (ns.map D.int))) none (some 63) = some (.lst ((ns.map D.int).map O.d)) := by
    show some (O.lst ((cutD (ns.map D.int) none (some 63)).map .d)) = _
    rw [ck]
  have fl : fzs ((ns.map D.int).map O.d) = ns.map D.int := fzs_leaf _
  have lU : fLenU [.d (.lst (ns.map D.int))] = some (.d (.int (ns.length : Nat))) := by rw [y12, List.length_map]
  have tl : on1 fList [.lst ((ns.map D.int).map O.d)] = some (.lst ((ns.map D.int).map O.d)) := by
    show ((leafs ((ns.map D.int).map O.d)).map fun ds => O.lst (ds.map O.d)) = _
    rw [leafs_map]; rfl
  have z6 : (6 : Nat) ≤ sizeLine := by decide
  refine ⟨z, z0, ?_⟩
  unfold stO
  dsimp only
  generalize (ns.map D.int).map O.d = M at *
  generalize ns.map D.int = N at *
  generalize ((ns.length : Nat) : Int) = n at *
  refine' R__law_start (e := _) ?_ ?_
  rotate_left 1
  · unfold b__law_start
    refine seqA (by simp [lU, -MX.y12] <;> rfl) ?_
    simp only [MX.z7]
    refine seqA (Eq.trans (sFor_ok (by simp [sl, fl] <;> rfl)) lp) ?_
    simp only [MX.z7]
    exact Eq.trans (by simp [sl, tl, fl, z6] <;> rfl) rfl
  · rfl
abbrev TK : En → Out := (sSeq (sAsg (dBin fMod (vT (dCall (on1 fInt) (vCons (vT (dBin fIx (vS 0) (vT (dC (.int 0))))) vNil))) (vS 1)) (tName 4))
  (sSeq (sAugI 0 (vT (dC (.int 5))) (vT (dC (.int 1))) (fun i j => i - j))
  (sSeq (sAsg (dBin fMul (vT (dBin fDiv (vT (dBin fIx (vS 0) (vT (dC (.int 0))))) (vS 1))) (vT (dCall (on1 fInt) (vCons (vT (dBin fGt (vT (dBin fIx (vS 0) (vT (dC (.int 5))))) (vT (dC (.int 0))))) vNil)))) (tSub 0 (vT (dC (.int 0)))))
  (sRet (dMove 4)))))
theorem tk_tail (C : D) (s0 s1 s2 s3 s5 lim : Int) (s2' s3' : Sl) (h0 : 0 ≤ s0) (hl : 0 < lim) (hl2 : lim < 2 ^ 64) : ∃ s0' : Int, 0 ≤ s0' ∧
    TK [.p (sL C s0 s1 s2 s3 s5), .p (.d (.int lim)), s2', s3', .no] = .rt (.d (.int (s0 % lim))) [.p (sL C s0' s1 s2 s3 (s5 - 1)), .p (.d (.int lim)), s2', s3', .no] := by
  have i0 := s_i0 C s0 s1 s2 s3 s5
  have i0' := s_i0 C s0 s1 s2 s3 (s5 - 1)
  have i5' := s_i5 C s0 s1 s2 s3 (s5 - 1)
  have q0 : 0 ≤ s0 / lim := Int.ediv_nonneg h0 (by omega)
  have sa : isSm (if decide (0 < s5 - 1) = true then 1 else 0) = true := by split <;> decide
  have st := s_t0 C s0 s1 s2 s3 (s5 - 1) (s0 / lim * (if decide (0 < s5 - 1) = true then 1 else 0))
  refine ⟨s0 / lim * (if decide (0 < s5 - 1) = true then 1 else 0), ?_, ?_⟩
  · split
    · rw [Int.mul_one]; exact q0
    · rw [Int.mul_zero]; omega
  · have fg : fGt (.d (.int (s5 - 1))) (.d (.int 0)) = some (.d (.bl (decide (0 < s5 - 1)))) := rfl
    have fb : ∀ b : Bool, on1 fInt [.d (.bl b)] = some (.d (.int (if b = true then 1 else 0))) := fun b => rfl
    have fbb := fb (decide (0 < s5 - 1))
    have fm := y16 (i := s0 / lim) sa
    have au := au5 C s0 s1 s2 s3 s5 .no [.p (.d (.int lim)), s2', s3', .v (.d (.int (s0 % lim)))]
    generalize decide (0 < s5 - 1) = bb at *
    generalize (if bb = true then (1 : Int) else 0) = ib at *
    generalize s0 / lim * ib = w at *
    generalize s5 - 1 = s5' at *
    refine seqA (o := .nx [.p (sL C s0 s1 s2 s3 s5), .p (.d (.int lim)), s2', s3', .v (.d (.int (s0 % lim)))]) (by simp [i0, y17 hl]) ?_
    simp only [MX.z7]
    refine seqA au ?_
    simp only [MX.z7]
    refine seqA (o := .nx [.p (sL C w s1 s2 s3 s5'), .p (.d (.int lim)), s2', s3', .v (.d (.int (s0 % lim)))]) (by simp [i0', i5', y18 hl hl2, fg, fbb, fm, st, -MX.y5, -MX.y11]) ?_
    simp only [MX.z7]
    simp
end K01
namespace K01
open PySem L2 MX
theorem pow18_ : fPow (.d (.int 10)) (.d (.int 18)) = some (.d (.int 1000000000000000000)) := by rfl
theorem v_take (c : List Int) (S : Sx) (h0 : 0 ≤ S.s0) {lim : Int} (hl : 0 < lim) (hl2 : lim < 2 ^ 64) : ∃ (S' : Sx) (r : Int), 0 ≤ S'.s0 ∧ 0 ≤ r ∧ r < lim ∧ d__law_take [stO c S, .d (.int lim)] = .ok (.d (.int r)) [some (stO c S'), some (.d (.int lim))] := by
  obtain ⟨s0, s1, s2, s3, s5⟩ := S
  dsimp only at h0
  unfold stO
  dsimp only
  have lC : fLenU [.d (.lst (c.map D.int))] = some (.d (.int (c.length : Nat))) := by rw [y12, List.length_map]
  have md := fun (n : Int) => v_mixed n (s2 + 1)
  have ix : ∀ h : s1 < c.length, fIx (.d (.lst (c.map D.int))) (.d (.int (s1 : Int))) = some (.d (.int c[s1])) := fun h => ix_ls (by rw [List.getElem?_map, List.getElem?_eq_getElem h]; rfl)
  have ab : ∀ x : Int, on1 fAbs [.d (.int x)] = some (.d (.int (x.natAbs : Nat))) := fun x => by
    show some (O.d (.int (if x < 0 then -x else x))) = _
    have : (if x < 0 then -x else x) = (x.natAbs : Int) := by split <;> omega
    rw [this]
  have hp := pow18_
  by_cases z0 : s0 = 0
  · subst z0
    by_cases hs : s1 < c.length
    · have ix := ix hs
      generalize c[s1] = x at *
      have hs' : ((s1 : Nat) : Int) < ((c.length : Nat) : Int) := by omega
      by_cases hx : ((x.natAbs : Nat) : Int) < 1000000000000000000
      · -- a mixed number
        obtain ⟨r, r0, r1, km⟩ := md x
        refine ⟨⟨0, s1 + 1, s2 + 1, s3, s5⟩, r % lim, Int.le_refl _, Int.emod_nonneg _ (by omega), Int.emod_lt_of_pos _ hl, ?_⟩
        dsimp only
        have abx := ab x
        have e1 : (((s1 + 1 : Nat)) : Int) = (s1 : Int) + 1 := rfl
        rw [e1]
        generalize D.lst (c.map D.int) = C at *
        generalize ((c.length : Nat) : Int) = n at *
        generalize (s1 : Int) = s1' at *
        generalize ((x.natAbs : Nat) : Int) = ax at *
        generalize (1000000000000000000 : Int) = P at *
        have i4 := s_i4 C 0 s1' s2 s3 s5
        have i0 := s_i0 C 0 s1' (s2 + 1) s3 s5
        have i1 := s_i1 C 0 s1' (s2 + 1) s3 s5
        have i2 := s_i2 C 0 (s1' + 1) (s2 + 1) s3 s5
        have a2 := au2 C 0 s1' s2 s3 s5 .no [.p (.d (.int lim)), .v (.d C), .no, .no]
        have a1 := au1 C 0 s1' (s2 + 1) s3 s5 .no [.p (.d (.int lim)), .v (.d C), .v (.d (.int x)), .no]
        refine' R__law_take (e := [.p (sL C 0 (s1' + 1) (s2 + 1) s3 s5), .p (.d (.int lim)), .v (.d C), .v (.d (.int x)), .no]) ?_ rfl
        unfold b__law_take
        refine seqA (by simp [i4] <;> rfl) ?_
        simp only [MX.z7]
        refine seqA a2 ?_
        simp only [MX.z7]
        refine seqr ?_
        refine sif_t (e1 := [.p (sL C 0 s1' (s2 + 1) s3 s5), .p (.d (.int lim)), .v (.d C), .no, .no]) (by simp [i0, i1, lC, hs']) ?_
        refine seqA (by simp [i1, ix] <;> rfl) ?_
        simp only [MX.z7]
        refine seqA a1 ?_
        simp only [MX.z7]
        refine seqr ?_
        refine sif_t (e1 := [.p (sL C 0 (s1' + 1) (s2 + 1) s3 s5), .p (.d (.int lim)), .v (.d C), .v (.d (.int x)), .no]) (by simp [abx, hp, hx]) ?_
        simp [i2, km, y17 hl]
      · -- digits of a great number
        have hax : (0 : Int) ≤ ((x.natAbs : Nat) : Int) := by omega
        have hne : ¬ ((x.natAbs : Nat) : Int) = 0 := by omega
        obtain ⟨s0', hs0, tl⟩ := tk_tail (.lst (c.map D.int)) ((x.natAbs : Nat) : Int) ((s1 : Int) + 1) (s2 + 1) s3 60 lim (.v (.d (.lst (c.map D.int)))) (.v (.d (.int x))) hax hl hl2
        refine ⟨⟨s0', s1 + 1, s2 + 1, s3, 59⟩, ((x.natAbs : Nat) : Int) % lim, hs0, Int.emod_nonneg _ (by omega), Int.emod_lt_of_pos _ hl, ?_⟩
        dsimp only
        have abx := ab x
        have e1 : (((s1 + 1 : Nat)) : Int) = (s1 : Int) + 1 := rfl
        rw [e1]
        have e59 : (60 : Int) - 1 = 59 := rfl
        rw [e59] at tl
        generalize D.lst (c.map D.int) = C at *
        generalize ((c.length : Nat) : Int) = n at *
        generalize (s1 : Int) = s1' at *
        generalize ((x.natAbs : Nat) : Int) = ax at *
        generalize (1000000000000000000 : Int) = P at *
        have i4 := s_i4 C 0 s1' s2 s3 s5
        have i0 := s_i0 C 0 s1' (s2 + 1) s3 s5
        have i1 := s_i1 C 0 s1' (s2 + 1) s3 s5
        have i0b := s_i0 C ax (s1' + 1) (s2 + 1) s3 60
        have t0 := s_t0 C 0 (s1' + 1) (s2 + 1) s3 s5 ax
        have t5 := s_t5 C ax (s1' + 1) (s2 + 1) s3 s5 60
        have a2 := au2 C 0 s1' s2 s3 s5 .no [.p (.d (.int lim)), .v (.d C), .no, .no]
        have a1 := au1 C 0 s1' (s2 + 1) s3 s5 .no [.p (.d (.int lim)), .v (.d C), .v (.d (.int x)), .no]
        refine' R__law_take (e := [.p (sL C s0' (s1' + 1) (s2 + 1) s3 59), .p (.d (.int lim)), .v (.d C), .v (.d (.int x)), .no]) ?_ rfl
        unfold b__law_take
        refine seqA (by simp [i4] <;> rfl) ?_
        simp only [MX.z7]
        refine seqA a2 ?_
        simp only [MX.z7]
        refine seqA (o := .nx [.p (sL C ax (s1' + 1) (s2 + 1) s3 60), .p (.d (.int lim)), .v (.d C), .v (.d (.int x)), .no]) ?_ ?_
        · refine sif_t (e1 := [.p (sL C 0 s1' (s2 + 1) s3 s5), .p (.d (.int lim)), .v (.d C), .no, .no]) (by simp [i0, i1, lC, hs']) ?_
          refine seqA (by simp [i1, ix] <;> rfl) ?_
          simp only [MX.z7]
          refine seqA a1 ?_
          simp only [MX.z7]
          refine seqA (o := .nx [.p (sL C 0 (s1' + 1) (s2 + 1) s3 s5), .p (.d (.int lim)), .v (.d C), .v (.d (.int x)), .no]) ?_ ?_
          · exact sif_f (e1 := [.p (sL C 0 (s1' + 1) (s2 + 1) s3 s5), .p (.d (.int lim)), .v (.d C), .v (.d (.int x)), .no]) (by simp [abx, hp, hx]) rfl
          simp only [MX.z7]
          refine seqA (o := .nx [.p (sL C ax (s1' + 1) (s2 + 1) s3 s5), .p (.d (.int lim)), .v (.d C), .v (.d (.int x)), .no]) (by simp [abx, t0]) ?_
          simp only [MX.z7]
          simp [t5]
        simp only [MX.z7]
        refine seqA (o := .nx [.p (sL C ax (s1' + 1) (s2 + 1) s3 60), .p (.d (.int lim)), .v (.d C), .v (.d (.int x)), .no]) ?_ ?_
        · exact sif_f (e1 := [.p (sL C ax (s1' + 1) (s2 + 1) s3 60), .p (.d (.int lim)), .v (.d C), .v (.d (.int x)), .no]) (by simp [i0b, hne]) rfl
        simp only [MX.z7]
        exact tl
    · -- the seed
      have hs' : ¬ ((s1 : Nat) : Int) < ((c.length : Nat) : Int) := by omega
      obtain ⟨r, r0, r1, km⟩ := md s3
      refine ⟨⟨0, s1, s2 + 1, s3, s5⟩, r % lim, Int.le_refl _, Int.emod_nonneg _ (by omega), Int.emod_lt_of_pos _ hl, ?_⟩
      dsimp only
      generalize D.lst (c.map D.int) = C at *
      generalize ((c.length : Nat) : Int) = n at *
      generalize (s1 : Int) = s1' at *
      have i4 := s_i4 C 0 s1' s2 s3 s5
      have i0 := s_i0 C 0 s1' (s2 + 1) s3 s5
      have i1 := s_i1 C 0 s1' (s2 + 1) s3 s5
      have i2 := s_i2 C 0 s1' (s2 + 1) s3 s5
      have i3 := s_i3 C 0 s1' (s2 + 1) s3 s5
      have a2 := au2 C 0 s1' s2 s3 s5 .no [.p (.d (.int lim)), .v (.d C), .no, .no]
      refine' R__law_take (e := [.p (sL C 0 s1' (s2 + 1) s3 s5), .p (.d (.int lim)), .v (.d C), .no, .no]) ?_ rfl
      unfold b__law_take
      refine seqA (by simp [i4] <;> rfl) ?_
      simp only [MX.z7]
      refine seqA a2 ?_
      simp only [MX.z7]
      refine seqA (o := .nx [.p (sL C 0 s1' (s2 + 1) s3 s5), .p (.d (.int lim)), .v (.d C), .no, .no]) ?_ ?_
      · exact sif_f (e1 := [.p (sL C 0 s1' (s2 + 1) s3 s5), .p (.d (.int lim)), .v (.d C), .no, .no]) (by simp [i0, i1, lC, hs']) rfl
      simp only [MX.z7]
      refine seqr ?_
      refine sif_t (e1 := [.p (sL C 0 s1' (s2 + 1) s3 s5), .p (.d (.int lim)), .v (.d C), .no, .no]) (by simp [i0]) ?_
      simp [i3, i2, km, y17 hl]
  · obtain ⟨s0', hs0, tl⟩ := tk_tail (.lst (c.map D.int)) s0 (s1 : Int) (s2 + 1) s3 s5 lim (.v (.d (.lst (c.map D.int)))) .no h0 hl hl2
    refine ⟨⟨s0', s1, s2 + 1, s3, s5 - 1⟩, s0 % lim, hs0, Int.emod_nonneg _ (by omega), Int.emod_lt_of_pos _ hl, ?_⟩
    dsimp only
    generalize D.lst (c.map D.int) = C at *
    generalize ((c.length : Nat) : Int) = n at *
    generalize (s1 : Int) = s1' at *
    have i4 := s_i4 C s0 s1' s2 s3 s5
    have i0 := s_i0 C s0 s1' (s2 + 1) s3 s5
    have a2 := au2 C s0 s1' s2 s3 s5 .no [.p (.d (.int lim)), .v (.d C), .no, .no]
    refine' R__law_take (e := [.p (sL C s0' s1' (s2 + 1) s3 (s5 - 1)), .p (.d (.int lim)), .v (.d C), .no, .no]) ?_ rfl
    unfold b__law_take
    refine seqA (by simp [i4] <;> rfl) ?_
    simp only [MX.z7]
    refine seqA a2 ?_
    simp only [MX.z7]
    refine seqA (o := .nx [.p (sL C s0 s1' (s2 + 1) s3 s5), .p (.d (.int lim)), .v (.d C), .no, .no]) ?_ ?_
    · exact sif_f (e1 := [.p (sL C s0 s1' (s2 + 1) s3 s5), .p (.d (.int lim)), .v (.d C), .no, .no]) (by simp [i0, z0]) rfl
    simp only [MX.z7]
    refine seqA (o := .nx [.p (sL C s0 s1' (s2 + 1) s3 s5), .p (.d (.int lim)), .v (.d C), .no, .no]) ?_ ?_
    · exact sif_f (e1 := [.p (sL C s0 s1' (s2 + 1) s3 s5), .p (.d (.int lim)), .v (.d C), .no, .no]) (by simp [i0, z0]) rfl
    simp only [MX.z7]
    exact tl
end K01
namespace K01
open PySem L2 MX
inductive Ln where
  | ad (i j : Nat)
  | ti (i j : Nat)
  | sc (a : Int) (i : Nat) (b : Int)
abbrev sAdd : D := .str (Str.ofString "add")
abbrev sTim : D := .str (Str.ofString "times")
abbrev sSca : D := .str (Str.ofString "scale")
def lnD : Ln → D
  | .ad i j => .tup [sAdd, di i, di j]
  | .ti i j => .tup [sTim, di i, di j]
  | .sc a i b => .tup [sSca, .int a, di i, .int b]
def gi (r : List Int) (j : Nat) : Int := r.getD j 0
theorem gi_at {r : List Int} {j : Nat} (h : j < r.length) : r[j]? = some (gi r j) := by
  unfold gi
  rw [List.getD_eq_getElem?_getD, List.getElem?_eq_getElem h]; rfl
def lval (q : Int) (ws : List Int) : Ln → Int
  | .ad i j => (gi ws i + gi ws j) % q
  | .ti i j => (gi ws i * gi ws j) % q
  | .sc a i b => (a * gi ws i + b) % q
def lok (n : Nat) : Ln → Prop
  | .ad i j => i < n ∧ j < n
  | .ti i j => i < n ∧ j < n
  | .sc _ i _ => i < n
def ilO (ws : List Int) : O := .lst (ws.map fun x => .d (.int x))
theorem ix_ilO {ws : List Int} {i : Nat} (h : i < ws.length) : fIx (ilO ws) (.d (.int (i : Int))) = some (.d (.int (gi ws i))) := ix_lm (f := D.int) (gi_at h)
structure RQ (q : Nat) (ws : List Int) : Prop where
  q0 : 0 < q
  q2 : q < 1000
  r : ∀ x ∈ ws, 0 ≤ x ∧ x < (q : Int)
theorem RQ.sm {q : Nat} {ws : List Int} (h : RQ q ws) {i : Nat} (hi : i < ws.length) : isSm (gi ws i) = true := by
  have := h.r _ (List.mem_of_getElem? (gi_at hi))
  have := h.q2
  exact sm_of (by omega) (by omega)
theorem se1 : fEq (.d sAdd) (.d sSca) = some (.d (.bl false)) := by rfl
theorem se2 : fEq (.d sTim) (.d sSca) = some (.d (.bl false)) := by rfl
theorem se3 : fEq (.d sSca) (.d sSca) = some (.d (.bl true)) := by rfl
theorem se4 : fEq (.d sAdd) (.d sAdd) = some (.d (.bl true)) := by rfl
theorem se5 : fEq (.d sTim) (.d sAdd) = some (.d (.bl false)) := by rfl
theorem se6 : fEq (.d sAdd) (.d sTim) = some (.d (.bl false)) := by rfl
theorem se7 : fEq (.d sTim) (.d sTim) = some (.d (.bl true)) := by rfl
theorem se8 : fEq (.d sSca) (.d sTim) = some (.d (.bl false)) := by rfl
theorem v_lineval {q : Nat} {ws : List Int} (h : RQ q ws) (l : Ln) (hl : lok ws.length l) : d_line_value [.d (.int q), .d (lnD l), ilO ws] = .ok (.d (.int (lval q ws l))) [some (.d (.int q)), some (.d (lnD l)), some (ilO ws)] := by
  have qp : (0 : Int) < (q : Int) := by have := h.q0; omega
  have s1 := se1
  have s2 := se2
  have s3 := se3
  have s4 := se4
  have s5 := se5
  cases l with
  | ad i j =>
    have a := ix_ilO hl.1
    have b := ix_ilO hl.2
    have i0 : fIx (.d (lnD (.ad i j))) (.d (.int 0)) = some (.d sAdd) := rfl
    have i1 : fIx (.d (lnD (.ad i j))) (.d (.int 1)) = some (.d (.int (i : Int))) := rfl
    have i2 : fIx (.d (lnD (.ad i j))) (.d (.int 2)) = some (.d (.int (j : Int))) := rfl
    have el : lval q ws (.ad i j) = (gi ws i + gi ws j) % (q : Int) := rfl
    rw [el]
    unfold ilO at *
    generalize lnD (.ad i j) = L at *
    generalize (ws.map fun x => O.d (.int x)) = W at *
    generalize gi ws i = x at *
    generalize gi ws j = y at *
    generalize (i : Int) = i' at *
    generalize (j : Int) = j' at *
    generalize (q : Int) = q' at *
    unfold sAdd sSca sTim at *
    refine' R_line_value (e := _) ?_ ?_
    rotate_left 1
    · unfold b_line_value
      refine seqA (by simp [i0, s1] <;> rfl) ?_
      simp only [MX.z7]
      refine seqr (by simp [i0, s4, i1, i2, a, b, y17 qp] <;> rfl)
    · rfl
  | ti i j =>
    have a := ix_ilO hl.1
    have b := ix_ilO hl.2
    have sx := h.sm hl.1
    have i0 : fIx (.d (lnD (.ti i j))) (.d (.int 0)) = some (.d sTim) := rfl
    have i1 : fIx (.d (lnD (.ti i j))) (.d (.int 1)) = some (.d (.int (i : Int))) := rfl
    have i2 : fIx (.d (lnD (.ti i j))) (.d (.int 2)) = some (.d (.int (j : Int))) := rfl
    have el : lval q ws (.ti i j) = (gi ws i * gi ws j) % (q : Int) := rfl
    rw [el]
    unfold ilO at *
    generalize lnD (.ti i j) = L at *
    generalize (ws.map fun x => O.d (.int x)) = W at *
    generalize gi ws i = x at *
    generalize gi ws j = y at *
    generalize (i : Int) = i' at *
    generalize (j : Int) = j' at *
    generalize (q : Int) = q' at *
    unfold sAdd sSca sTim at *
    refine' R_line_value (e := _) ?_ ?_
    rotate_left 1
    · unfold b_line_value
      refine seqA (by simp [i0, s2] <;> rfl) ?_
      simp only [MX.z7]
      refine seqA (by simp [i0, s5] <;> rfl) ?_
      simp only [MX.z7]
      exact Eq.trans (by simp [i1, i2, a, b, y15 sx, y17 qp] <;> rfl) rfl
    · rfl
  | sc c i d =>
    have a := ix_ilO hl
    have sx := h.sm hl
    have i0 : fIx (.d (lnD (.sc c i d))) (.d (.int 0)) = some (.d sSca) := rfl
    have i1 : fIx (.d (lnD (.sc c i d))) (.d (.int 1)) = some (.d (.int c)) := rfl
    have i2 : fIx (.d (lnD (.sc c i d))) (.d (.int 2)) = some (.d (.int (i : Int))) := rfl
    have i3 : fIx (.d (lnD (.sc c i d))) (.d (.int 3)) = some (.d (.int d)) := rfl
    have el : lval q ws (.sc c i d) = (c * gi ws i + d) % (q : Int) := rfl
    rw [el]
    unfold ilO at *
    generalize lnD (.sc c i d) = L at *
    generalize (ws.map fun x => O.d (.int x)) = W at *
    generalize gi ws i = x at *
    generalize (i : Int) = i' at *
    generalize (q : Int) = q' at *
    unfold sAdd sSca sTim at *
    refine' R_line_value (e := _) ?_ ?_
    rotate_left 1
    · unfold b_line_value
      refine seqr (by simp [i0, s3, i1, i2, i3, a, y16 sx, y17 qp] <;> rfl)
    · rfl
end K01
namespace K01
open PySem L2 MX
def walk (q : Int) : List Ln → List Int → List Int
  | [], ws => ws
  | l :: ls, ws => walk q ls (ws ++ [lval q ws l])
def lsok : Nat → List Ln → Prop
  | _, [] => True
  | n, l :: ls => lok n l ∧ lsok (n + 1) ls
theorem walk_len (q : Int) : ∀ (ls : List Ln) (ws : List Int), (walk q ls ws).length = ws.length + ls.length
  | [], ws => rfl
  | l :: ls, ws => by
    show (walk q ls (ws ++ [lval q ws l])).length = _
    rw [walk_len q ls, List.length_append, List.length_singleton, List.length_cons]; omega
theorem lval_r {q : Nat} (h : 0 < q) (ws : List Int) (l : Ln) : 0 ≤ lval q ws l ∧ lval q ws l < (q : Int) := by
  cases l <;> exact ⟨Int.emod_nonneg _ (by omega), Int.emod_lt_of_pos _ (by omega)⟩
theorem RQ.snoc {q : Nat} {ws : List Int} (h : RQ q ws) (l : Ln) : RQ q (ws ++ [lval q ws l]) := ⟨h.q0, h.q2, fun x hx => by
  rcases List.mem_append.mp hx with hx | hx
  · exact h.r x hx
  · rw [List.mem_singleton.mp hx]; exact lval_r h.q0 ws l⟩
theorem RQ.walk {q : Nat} : ∀ (ls : List Ln) {ws : List Int}, RQ q ws → RQ q (walk q ls ws)
  | [], _, h => h
  | l :: ls, _, h => RQ.walk ls (h.snoc l)
def insR (q : Int) (xs : List Int) : List Int := xs.map fun x => x % q
theorem insR_ok {q : Nat} (h : 0 < q) (h2 : q < 1000) (xs : List Int) : RQ q (insR q xs) := ⟨h, h2, fun x hx => by
  obtain ⟨y, _, rfl⟩ := List.mem_map.mp hx
  exact ⟨Int.emod_nonneg _ (by omega), Int.emod_lt_of_pos _ (by omega)⟩⟩
structure Sh where
  n : Nat
  ls : List Ln
  os : List Nat
def shD (s : Sh) : D := .tup [di s.n, .tup (s.ls.map lnD), .tup (s.os.map di)]
structure ShOk (s : Sh) : Prop where
  n16 : s.n ≤ 16
  l60 : s.ls.length ≤ 60
  o8 : s.os.length ≤ 8
  ln : lsok s.n s.ls
  ou : ∀ o ∈ s.os, o < s.n + s.ls.length
theorem wv_loop {q : Nat} (P1 P2 : Sl) (s5 : Sl) : ∀ (ls : List Ln) (ws : List Int) (s4 : Sl), RQ q ws → lsok ws.length ls → ws.length + ls.length ≤ 900 → s4.pinned = false → ∃ t4 : Sl,
    sForL (tName 4) l1_wire_values (ls.map lnD) [.p (.d (.int q)), P1, P2, .v (ilO ws), s4, s5] = .nx [.p (.d (.int q)), P1, P2, .v (ilO (walk q ls ws)), t4, s5]
  | [], ws, s4, _, _, _, _ => ⟨s4, u1⟩
  | l :: ls, ws, s4, h, hl, hz, h4 => by
    rw [List.length_cons] at hz
    obtain ⟨t4, ih⟩ := wv_loop P1 P2 s5 ls (ws ++ [lval q ws l]) (.v (.d (lnD l))) (h.snoc l) (by rw [List.length_append, List.length_singleton]; exact hl.2) (by rw [List.length_append, List.length_singleton]; omega) rfl
    refine ⟨t4, ?_⟩
    have k := v_lineval h l hl.1
    have e2 : ilO (ws ++ [lval q ws l]) = .lst ((ws.map fun x => O.d (.int x)) ++ [.d (.int (lval q ws l))]) := by unfold ilO; rw [List.map_append]; rfl
    have hzz : (ws.map fun x => O.d (.int x)).length < sizeLine := by rw [List.length_map]; exact Nat.lt_of_lt_of_le (show ws.length < 1000 by omega) (by decide)
    have e3 : walk q (l :: ls) ws = walk q ls (ws ++ [lval q ws l]) := rfl
    rw [e3, List.map_cons, ← ih, e2]
    unfold ilO at *
    generalize (ws.map fun x => O.d (.int x)) = W at *
    generalize lnD l = L at *
    generalize lval q ws l = v at *
    generalize (q : Int) = q' at *
    exact for_nx (e1 := [.p (.d (.int q')), P1, P2, .v (.lst W), .v (.d L), s5]) (by simp [h4]) (by simp [k, fAppend, hzz])
theorem v_wirevals {q : Nat} (h : 0 < q) (h2 : q < 1000) (s : Sh) (hs : ShOk s) {X : D} (xs : List Int) (hX : any1 (.d X) = fun e => .ok (xs.map D.int) e) (hl : xs.length = s.n) : d_wire_values [.d (.int q), .d (shD s), .d X] = .ok (.d (.tup ((walk q s.ls (insR q xs)).map D.int))) [some (.d (.int q)), some (.d (shD s)), some (.d X)] := by
  have qp : (0 : Int) < (q : Int) := by omega
  have n16 := hs.n16
  have l60 := hs.l60
  have il : (insR q xs).length = s.n := by unfold insR; rw [List.length_map, hl]
  have lc := lc_m (vs := [5]) (t := tName 5) (el := e1_wire_values) (f := D.int) (g := fun x => O.d (.int (x % (q : Int)))) (e := [.p (.d (.int q)), .p (.d (shD s)), .p (.d X), .no, .no, .no]) xs (by omega) fun x _ => by
    generalize shD s = S at *
    exact ⟨[.p (.d (.int q)), .p (.d S), .p (.d X), .no, .no, .v (.d (.int x))], by simp, by simp [y17 qp], rfl⟩
  have el : (O.lst (xs.map fun x => O.d (.int (x % (q : Int))))) = ilO (insR q xs) := by unfold ilO insR; rw [List.map_map]; rfl
  rw [el] at lc
  obtain ⟨t4, lp⟩ := wv_loop (q := q) (.p (.d (shD s))) (.p (.d X)) .no s.ls (insR q xs) .no (insR_ok h h2 xs) (by rw [il]; exact hs.ln) (by rw [il]; omega) rfl
  have i1 : fIx (.d (shD s)) (.d (.int 1)) = some (.d (.tup (s.ls.map lnD))) := rfl
  have tp : on1 fTuple [ilO (walk q s.ls (insR q xs))] = some (.d (.tup ((walk q s.ls (insR q xs)).map D.int))) := tup_m (f := D.int)
  have hX2 := fun e => congrFun hX e
  generalize ilO (walk q s.ls (insR q xs)) = WO at *
  generalize D.tup ((walk q s.ls (insR q xs)).map D.int) = WT at *
  generalize s.ls.map lnD = Z at *
  generalize shD s = S at *
  generalize xs.map D.int = XI at *
  unfold ilO at *
  generalize ((insR q xs).map fun x => O.d (.int x)) = IO at *
  generalize (q : Int) = q' at *
  refine' R_wire_values (e := _) ?_ ?_
  rotate_left 1
  · unfold b_wire_values
    refine seqA (by simp [hX2, lc] <;> rfl) ?_
    simp only [MX.z7]
    refine seqA (Eq.trans (sFor_ok (by simp [i1] <;> rfl)) lp) ?_
    simp only [MX.z7]
    exact Eq.trans (by simp [tp] <;> rfl) rfl
  · rfl
end K01
namespace K01
open PySem L2 MX
theorem v_results {q : Nat} (h : 0 < q) (h2 : q < 1000) (s : Sh) (hs : ShOk s) {X : D} (xs : List Int) (hX : any1 (.d X) = fun e => .ok (xs.map D.int) e) (hl : xs.length = s.n) : d_results_of [.d (.int q), .d (shD s), .d X] = .ok (.d (.tup (s.os.map fun o => .int (gi (walk q s.ls (insR q xs)) o)))) [some (.d (.int q)), some (.d (shD s)), some (.d X)] := by
  have wv := v_wirevals h h2 s hs xs hX hl
  have o8 := hs.o8
  have wl : (walk q s.ls (insR q xs)).length = s.n + s.ls.length := by rw [walk_len]; unfold insR; rw [List.length_map, hl]
  have i2 : fIx (.d (shD s)) (.d (.int 2)) = some (.d (.tup (s.os.map di))) := rfl
  have lc := lc_m (vs := [4]) (t := tName 4) (el := e1_results_of) (f := di) (g := fun o => O.d (.int (gi (walk q s.ls (insR q xs)) o))) (e := [.p (.d (.int q)), .p (.d (shD s)), .p (.d X), .v (.d (.tup ((walk q s.ls (insR q xs)).map D.int))), .no]) s.os (by omega) fun o ho => by
    have hi := hs.ou o ho
    have ix : fIx (.d (.tup ((walk q s.ls (insR q xs)).map D.int))) (.d (.int (o : Int))) = some (.d (.int (gi (walk q s.ls (insR q xs)) o))) := ix_tp (by rw [List.getElem?_map, gi_at (by omega)]; rfl)
    generalize D.tup ((walk q s.ls (insR q xs)).map D.int) = W at *
    generalize gi (walk q s.ls (insR q xs)) o = y at *
    generalize shD s = S at *
    unfold di
    generalize (o : Int) = o' at *
    exact ⟨[.p (.d (.int q)), .p (.d S), .p (.d X), .v (.d W), .v (.d (.int o'))], by simp, by simp [ix], rfl⟩
  have tp : on1 fTuple [.lst (s.os.map fun o => O.d (.int (gi (walk q s.ls (insR q xs)) o)))] = some (.d (.tup (s.os.map fun o => .int (gi (walk q s.ls (insR q xs)) o)))) := tup_m (f := fun o => D.int (gi (walk q s.ls (insR q xs)) o))
  generalize (s.os.map fun o => O.d (.int (gi (walk q s.ls (insR q xs)) o))) = L1 at *
  generalize (s.os.map fun o => D.int (gi (walk q s.ls (insR q xs)) o)) = L2 at *
  generalize D.tup ((walk q s.ls (insR q xs)).map D.int) = W at *
  generalize s.os.map di = Z at *
  generalize shD s = S at *
  generalize (q : Int) = q' at *
  refine' R_results_of (e := _) ?_ ?_
  rotate_left 1
  · unfold b_results_of
    refine seqA (by simp [wv] <;> rfl) ?_
    simp only [MX.z7]
    exact Eq.trans (by simp [i2, lc, tp] <;> rfl) rfl
  · rfl
def isTi : Ln → Bool
  | .ti _ _ => true
  | _ => false
def enl : Nat → List Ln → List (Nat × Ln)
  | _, [] => []
  | k, l :: ls => (k, l) :: enl (k + 1) ls
theorem enl_len : ∀ (k : Nat) (ls : List Ln), (enl k ls).length = ls.length
  | _, [] => rfl
  | k, l :: ls => by show (enl (k + 1) ls).length + 1 = ls.length + 1; rw [enl_len]
theorem enl_enum : ∀ (k : Nat) (ls : List Ln), enumL k (ls.map lnD) = (enl k ls).map fun p => .tup [di p.1, lnD p.2]
  | _, [] => rfl
  | k, l :: ls => by
    show D.tup [.int (k : Int), lnD l] :: enumL (k + 1) (ls.map lnD) = _
    rw [enl_enum]; rfl
def tms (ls : List Ln) : List (Nat × Ln) := (enl 0 ls).filter fun p => isTi p.2
theorem tms_len (ls : List Ln) : (tms ls).length ≤ ls.length := by
  have := List.length_filter_le (fun p : Nat × Ln => isTi p.2) (enl 0 ls)
  rw [enl_len] at this
  exact this
theorem v_prods (s : Sh) (hs : ShOk s) : d_product_lines [.d (shD s)] = .ok (.lst ((tms s.ls).map fun p => .d (.tup [.int ((s.n : Int) + (p.1 : Int)), lnD p.2]))) [some (.d (shD s))] := by
  have l60 := hs.l60
  have z2 : (2 : Nat) ≤ sizeLine := by decide
  have lc := lc_mf (vs := [4, 5]) (t := tTupl (tgCons (tName 4) (tgCons (tName 5) tgNil))) (c := c1_product_lines) (el := e1_product_lines) (f := fun p : Nat × Ln => D.tup [di p.1, lnD p.2]) (g := fun p => O.d (.tup [.int ((s.n : Int) + (p.1 : Int)), lnD p.2])) (P := fun p => isTi p.2) (e := [.p (.d (shD s)), .v (.d (di s.n)), .v (.d (.tup (s.ls.map lnD))), .v (.d (.tup (s.os.map di))), .no, .no]) (enl 0 s.ls) (by rw [enl_len]; omega) fun p hp => by
    have i0 : ∃ st, fIx (.d (lnD p.2)) (.d (.int 0)) = some (.d (.str st)) ∧ fEq (.d (.str st)) (.d sTim) = some (.d (.bl (isTi p.2))) := by
      cases p.2 with
      | ad i j => exact ⟨_, rfl, se6⟩
      | ti i j => exact ⟨_, rfl, se7⟩
      | sc a i b => exact ⟨_, rfl, se8⟩
    obtain ⟨st, i0, e0⟩ := i0
    generalize isTi p.2 = b at *
    generalize lnD p.2 = L at *
    generalize shD s = S at *
    generalize D.tup (s.ls.map lnD) = TL at *
    generalize D.tup (s.os.map di) = TO at *
    unfold di sTim at *
    generalize (p.1 : Int) = k at *
    generalize (s.n : Int) = n at *
    exact ⟨[.p (.d S), .v (.d (.int n)), .v (.d TL), .v (.d TO), .v (.d (.int k)), .v (.d L)], by simp, by simp [i0, e0], fun _ => by simp [z2], rfl⟩
  rw [← enl_enum] at lc
  have ia := en_ar 2 [.p (.d (shD s)), .v (.d (di s.n)), .v (.d (.tup (s.ls.map lnD))), .v (.d (.tup (s.os.map di))), .no, .no] (s.ls.map lnD) rfl
  have ef : ((enl 0 s.ls).filter fun p => isTi p.2) = tms s.ls := rfl
  rw [ef] at lc
  have es : shD s = .tup [di s.n, .tup (s.ls.map lnD), .tup (s.os.map di)] := rfl
  generalize ((tms s.ls).map fun p => O.d (.tup [.int ((s.n : Int) + (p.1 : Int)), lnD p.2])) = R at *
  rw [es] at ia lc ⊢
  clear es
  generalize enumL 0 (s.ls.map lnD) = EN at *
  generalize s.ls.map lnD = TL at *
  generalize s.os.map di = TO at *
  unfold di at *
  generalize (s.n : Int) = n at *
  refine' R_product_lines (e := _) ?_ ?_
  rotate_left 1
  · unfold b_product_lines
    refine seqA (by simp <;> rfl) ?_
    simp only [MX.z7]
    exact Eq.trans (by simp [ia, lc, -MX.z83] <;> rfl) rfl
  · rfl
def bw (s : Sh) : List Nat := List.range s.n ++ (tms s.ls).map fun p => s.n + p.1
theorem v_basew (s : Sh) (hs : ShOk s) : d_base_wires [.d (shD s)] = .ok (.d (.tup ((bw s).map di))) [some (.d (shD s))] := by
  have n16 := hs.n16
  have l60 := hs.l60
  have tl := tms_len s.ls
  have pr := v_prods s hs
  have i0 : fIx (.d (shD s)) (.d (.int 0)) = some (.d (.int (s.n : Int))) := rfl
  have hb : rgB 0 (s.n : Int) = true := rgB_q (by omega)
  have hr := rgD_q (q := s.n) (by omega)
  have lc := lc_m (vs := [1, 2]) (t := tTupl (tgCons (tName 1) (tgCons (tName 2) tgNil))) (el := dVar 1) (f := fun p : Nat × Ln => D.tup [.int ((s.n : Int) + (p.1 : Int)), lnD p.2]) (g := fun p => O.d (di (s.n + p.1))) (e := [.p (.d (shD s)), .no, .no]) (tms s.ls) (by omega) fun p hp => by
    have ed : di (s.n + p.1) = .int ((s.n : Int) + (p.1 : Int)) := by unfold di; rw [Int.natCast_add]
    rw [ed]
    generalize lnD p.2 = L at *
    generalize shD s = S at *
    generalize (s.n : Int) + (p.1 : Int) = y at *
    exact ⟨[.p (.d S), .v (.d (.int y)), .v (.d L)], by simp, by simp, rfl⟩
  have fz : fzs ((tms s.ls).map fun p => O.d (.tup [.int ((s.n : Int) + (p.1 : Int)), lnD p.2])) = (tms s.ls).map fun p => D.tup [.int ((s.n : Int) + (p.1 : Int)), lnD p.2] := by
    rw [show ((tms s.ls).map fun p => O.d (.tup [.int ((s.n : Int) + (p.1 : Int)), lnD p.2])) = ((tms s.ls).map fun p => D.tup [.int ((s.n : Int) + (p.1 : Int)), lnD p.2]).map O.d by rw [List.map_map]; rfl, fzs_leaf]
  have tp : on1 fTuple [.lst ((tms s.ls).map fun p => O.d (di (s.n + p.1)))] = some (.d (.tup ((tms s.ls).map fun p => di (s.n + p.1)))) := tup_m (f := fun p : Nat × Ln => di (s.n + p.1))
  have ca : fAdd (.d (.tup ((List.range s.n).map di))) (.d (.tup ((tms s.ls).map fun p => di (s.n + p.1)))) = some (.d (.tup ((bw s).map di))) := by
    have := tp_cat (xs := (List.range s.n).map di) (ys := (tms s.ls).map fun p => di (s.n + p.1)) (by rw [List.length_map, List.length_map, List.length_range]; omega)
    rw [this]
    unfold bw
    rw [List.map_append, List.map_map]; rfl
  generalize (bw s).map di = BW at *
  generalize ((tms s.ls).map fun p => O.d (di (s.n + p.1))) = L1 at *
  generalize ((tms s.ls).map fun p => di (s.n + p.1)) = L2 at *
  generalize ((tms s.ls).map fun p => O.d (.tup [.int ((s.n : Int) + (p.1 : Int)), lnD p.2])) = L3 at *
  generalize ((tms s.ls).map fun p => D.tup [.int ((s.n : Int) + (p.1 : Int)), lnD p.2]) = L4 at *
  generalize (List.range s.n).map di = RG at *
  generalize shD s = S at *
  generalize (s.n : Int) = n at *
  refine' R_base_wires (e := _) ?_ ?_
  rotate_left 1
  · unfold b_base_wires
    exact Eq.trans (by simp [i0, hb, hr, pr, fz, lc, tp, ca] <;> rfl) rfl
  · rfl
end K01
namespace K01
open PySem L2 MX
abbrev itp (r : List Int) : D := .tup (r.map D.int)
def ur (w p : Nat) : List Int := List.replicate p 0 ++ [1] ++ List.replicate (w - p - 1) 0
theorem ur_len {w p : Nat} (h : p < w) : (ur w p).length = w := by
  unfold ur
  rw [List.length_append, List.length_append, List.length_replicate, List.length_replicate, List.length_singleton]; omega
theorem v_unit {w p : Nat} (h : p < w) (hw : w ≤ 900) : d_unit_row [.d (.int w), .d (.int p)] = .ok (.d (itp (ur w p))) [some (.d (.int w)), some (.d (.int p))] := by
  have z1 : (1 : Nat) ≤ sizeLine := by decide
  have r1 := tp_rep1 (x := .int 0) (k := p) (by omega)
  have r2 := tp_rep1 (x := .int 0) (k := w - p - 1) (by omega)
  have e : ((w - p - 1 : Nat) : Int) = (w : Int) - (p : Int) - 1 := by omega
  rw [e] at r2
  have c1 : fAdd (.d (.tup (List.replicate p (.int 0)))) (.d (.tup [.int 1])) = _ := tp_cat (by rw [List.length_replicate, List.length_singleton]; omega)
  have c2 : fAdd (.d (.tup (List.replicate p (.int 0) ++ [.int 1]))) (.d (.tup (List.replicate (w - p - 1) (.int 0)))) = _ := tp_cat (by rw [List.length_append, List.length_replicate, List.length_replicate, List.length_singleton]; omega)
  have eu : itp (ur w p) = .tup (List.replicate p (.int 0) ++ [.int 1] ++ List.replicate (w - p - 1) (.int 0)) := by
    unfold itp ur
    rw [List.map_append, List.map_append, List.map_replicate, List.map_replicate]; rfl
  rw [eu]
  generalize List.replicate p (D.int 0) ++ [.int 1] ++ List.replicate (w - p - 1) (.int 0) = R at *
  generalize List.replicate p (D.int 0) ++ [.int 1] = R1 at *
  generalize List.replicate p (D.int 0) = R0 at *
  generalize List.replicate (w - p - 1) (D.int 0) = R2 at *
  generalize (w : Int) = w' at *
  generalize (p : Int) = p' at *
  refine' R_unit_row (e := _) ?_ ?_
  rotate_left 1
  · unfold b_unit_row
    exact Eq.trans (by simp [z1, r1, r2, c1, c2] <;> rfl) rfl
  · rfl
def foO (fs : List (List Int)) : O := .lst (fs.map fun f => .d (itp f))
def gf (fs : List (List Int)) (i : Nat) : List Int := fs.getD i []
theorem gf_at {fs : List (List Int)} {j : Nat} (h : j < fs.length) : fs[j]? = some (gf fs j) := by
  unfold gf
  rw [List.getD_eq_getElem?_getD, List.getElem?_eq_getElem h]; rfl
theorem ix_fo {fs : List (List Int)} {i : Nat} (h : i < fs.length) : fIx (foO fs) (.d (.int (i : Int))) = some (.d (itp (gf fs i))) := ix_lm (f := itp) (gf_at h)
def addl (q b : Int) (r : List Int) : List Int := r.dropLast ++ [(r.getLastD 0 + b) % q]
def lform (q : Int) (fs : List (List Int)) (own : List Int) : Ln → List Int
  | .ad i j => List.zipWith (fun a b => (a + b) % q) (gf fs i) (gf fs j)
  | .ti _ _ => own
  | .sc a i b => addl q b ((gf fs i).map fun x => a * x % q)
structure FQ (q w : Nat) (fs : List (List Int)) : Prop where
  q0 : 0 < q
  q2 : q < 1000
  w0 : 0 < w
  w2 : w ≤ 900
  r : ∀ f ∈ fs, f.length = w ∧ ∀ x ∈ f, 0 ≤ x ∧ x < (q : Int)
theorem zipWm {α β γ : Type} (g : α → β → γ) : ∀ (A : List α) (B : List β), (A.zip B).map (fun p => g p.1 p.2) = List.zipWith g A B
  | [], _ => rfl
  | _ :: _, [] => rfl
  | a :: A, b :: B => by
    rw [List.zip_cons_cons, List.map_cons, zipWm g A B, List.zipWith_cons_cons]
theorem last_il (r : List Int) (x : Int) : fIx (ilO (r ++ [x])) (.d (.int (-1))) = some (.d (.int x)) := by
  have e1 : (ilO (r ++ [x])).ls = some ((r ++ [x]).map D.int) := by
    show leafs ((r ++ [x]).map fun x => O.d (.int x)) = _
    rw [show ((r ++ [x]).map fun x => O.d (.int x)) = ((r ++ [x]).map D.int).map O.d by rw [List.map_map]; rfl, leafs_map]
  have l1 : fIxL (ilO (r ++ [x])) (.d (.int (-1))) = some (.d (.int x)) := by
    unfold fIxL
    simp only [e1]
    rw [List.map_append]
    show (atI (r.map D.int ++ [D.int x]) (-1)).map O.d = _
    rw [atI_last]; rfl
  unfold fIx
  rw [l1]
theorem stl_il (r : List Int) (x y : Int) (hz : r.length ≤ 1000) : (ilO (r ++ [x])).store (.d (.int (-1))) (.d (.int y)) = some (ilO (r ++ [y])) := by
  unfold ilO
  rw [List.map_append, List.map_append]
  show (ixN (r.map (fun x => O.d (.int x)) ++ [O.d (.int x)]).length (-1)).map (fun j => O.lst ((r.map (fun x => O.d (.int x)) ++ [O.d (.int x)]).set j (.d (.int y)))) = _
  have e : ixN (r.map (fun x => O.d (.int x)) ++ [O.d (.int x)]).length (-1) = some r.length := by
    rw [List.length_append, List.length_map, List.length_singleton]
    unfold ixN
    rw [if_neg (by omega), if_pos (by omega)]
    congr 1
    omega
  rw [e]
  show some (O.lst ((r.map (fun x => O.d (.int x)) ++ [O.d (.int x)]).set r.length (.d (.int y)))) = _
  rw [List.set_append_right _ _ (by rw [List.length_map]; omega), List.length_map, Nat.sub_self]; rfl
theorem v_lineform {q w : Nat} {fs : List (List Int)} (h : FQ q w fs) (l : Ln) (hl : lok fs.length l) (own : List Int) : d_line_form [.d (.int q), .d (lnD l), foO fs, .d (itp own)] = .ok (.d (itp (lform q fs own l))) [some (.d (.int q)), some (.d (lnD l)), some (foO fs), some (.d (itp own))] := by
  have qp : (0 : Int) < (q : Int) := by have := h.q0; omega
  have q2 := h.q2
  have w2 := h.w2
  cases l with
  | ad i j =>
    have s1 := se6
    have s2 := se4
    have a := ix_fo hl.1
    have b := ix_fo hl.2
    have la := (h.r _ (List.mem_of_getElem? (gf_at hl.1))).1
    have i0 : fIx (.d (lnD (.ad i j))) (.d (.int 0)) = some (.d sAdd) := rfl
    have i1 : fIx (.d (lnD (.ad i j))) (.d (.int 1)) = some (.d (.int (i : Int))) := rfl
    have i2 : fIx (.d (lnD (.ad i j))) (.d (.int 2)) = some (.d (.int (j : Int))) := rfl
    have g := gz_tt (a := (gf fs i).map D.int) (b := (gf fs j).map D.int)
    rw [zip_m] at g
    have lc := lc_m (vs := [5, 6]) (t := tTupl (tgCons (tName 5) (tgCons (tName 6) tgNil))) (el := e1_line_form) (f := fun p : Int × Int => D.tup [.int p.1, .int p.2]) (g := fun p => O.d (.int ((p.1 + p.2) % (q : Int)))) (e := [.p (.d (.int q)), .p (.d (lnD (.ad i j))), .p (foO fs), .p (.d (itp own)), .no, .no, .no]) ((gf fs i).zip (gf fs j)) (by rw [List.length_zip]; omega) fun p _ => by
      generalize lnD (.ad i j) = L at *
      generalize foO fs = FO at *
      generalize itp own = OW at *
      exact ⟨[.p (.d (.int q)), .p (.d L), .p FO, .p (.d OW), .no, .v (.d (.int p.1)), .v (.d (.int p.2))], by simp, by simp [y17 qp], rfl⟩
    have tp : on1 fTuple [.lst (((gf fs i).zip (gf fs j)).map fun p => O.d (.int ((p.1 + p.2) % (q : Int))))] = some (.d (itp (lform q fs own (.ad i j)))) := by
      have k := tup_m (l := (gf fs i).zip (gf fs j)) (f := fun p : Int × Int => D.int ((p.1 + p.2) % (q : Int)))
      rw [k]
      have : ((gf fs i).zip (gf fs j)).map (fun p : Int × Int => D.int ((p.1 + p.2) % (q : Int))) = (lform q fs own (.ad i j)).map D.int := by
        show _ = (List.zipWith (fun a b => (a + b) % (q : Int)) (gf fs i) (gf fs j)).map D.int
        rw [← zipWm (fun a b => (a + b) % (q : Int)), List.map_map]; rfl
      rw [this]
    generalize itp (lform q fs own (.ad i j)) = R at *
    generalize (((gf fs i).zip (gf fs j)).map fun p => O.d (.int ((p.1 + p.2) % (q : Int)))) = L1 at *
    generalize (((gf fs i).zip (gf fs j)).map fun p : Int × Int => D.tup [.int p.1, .int p.2]) = Z at *
    have a : fIx (foO fs) (.d (.int (i : Int))) = some (.d (.tup ((gf fs i).map D.int))) := a
    have b : fIx (foO fs) (.d (.int (j : Int))) = some (.d (.tup ((gf fs j).map D.int))) := b
    generalize (gf fs i).map D.int = A at *
    generalize (gf fs j).map D.int = B at *
    generalize lnD (.ad i j) = L at *
    unfold foO at *
    generalize (fs.map fun f => O.d (itp f)) = FO at *
    generalize itp own = OW at *
    generalize (i : Int) = i' at *
    generalize (j : Int) = j' at *
    generalize (q : Int) = q' at *
    unfold sAdd sTim at *
    refine' R_line_form (e := _) ?_ ?_
    rotate_left 1
    · unfold b_line_form
      refine seqA (by simp [i0, s1] <;> rfl) ?_
      simp only [MX.z7]
      refine seqr (by simp [i0, s2, i1, i2, a, b, g, lc, tp] <;> rfl)
    · rfl
  | ti i j =>
    have s1 := se7
    have i0 : fIx (.d (lnD (.ti i j))) (.d (.int 0)) = some (.d sTim) := rfl
    have el : lform q fs own (.ti i j) = own := rfl
    rw [el]
    generalize lnD (.ti i j) = L at *
    unfold foO at *
    generalize (fs.map fun f => O.d (itp f)) = FO at *
    generalize itp own = OW at *
    generalize (q : Int) = q' at *
    unfold sTim at *
    refine' R_line_form (e := _) ?_ ?_
    rotate_left 1
    · unfold b_line_form
      refine seqr (by simp [i0, s1] <;> rfl)
    · rfl
  | sc c i b =>
    have s1 := se8
    have s2 : fEq (.d sSca) (.d sAdd) = some (.d (.bl false)) := by rfl
    have hi : i < fs.length := hl
    have a := ix_fo hi
    obtain ⟨la, ra⟩ := h.r _ (List.mem_of_getElem? (gf_at hi))
    have w0 := h.w0
    have i0 : fIx (.d (lnD (.sc c i b))) (.d (.int 0)) = some (.d sSca) := rfl
    have i1 : fIx (.d (lnD (.sc c i b))) (.d (.int 1)) = some (.d (.int c)) := rfl
    have i2 : fIx (.d (lnD (.sc c i b))) (.d (.int 2)) = some (.d (.int (i : Int))) := rfl
    have i3 : fIx (.d (lnD (.sc c i b))) (.d (.int 3)) = some (.d (.int b)) := rfl
    have lc := lc_m (vs := [5]) (t := tName 5) (el := e2_line_form) (f := D.int) (g := fun x => O.d (.int (c * x % (q : Int)))) (e := [.p (.d (.int q)), .p (.d (lnD (.sc c i b))), .p (foO fs), .p (.d (itp own)), .no, .no, .no]) (gf fs i) (by omega) fun x hx => by
      obtain ⟨x0, x1⟩ := ra x hx
      have sx : isSm x = true := sm_of (by omega) (by omega)
      generalize lnD (.sc c i b) = L at *
      generalize foO fs = FO at *
      generalize itp own = OW at *
      exact ⟨[.p (.d (.int q)), .p (.d L), .p FO, .p (.d OW), .no, .v (.d (.int x)), .no], by simp, by simp [i1, y16 sx, y17 qp], rfl⟩
    obtain ⟨r0, y, er⟩ : ∃ r0 y, (gf fs i).map (fun x => c * x % (q : Int)) = r0 ++ [y] := by
      have hne : (gf fs i).map (fun x => c * x % (q : Int)) ≠ [] := fun e => by
        have := congrArg List.length e
        rw [List.length_map, la, List.length_nil] at this
        omega
      exact ⟨_, _, (List.dropLast_concat_getLast hne).symm⟩
    have lr : r0.length ≤ 1000 := by
      have := congrArg List.length er
      rw [List.length_map, la, List.length_append] at this
      omega
    have el : lform q fs own (.sc c i b) = r0 ++ [(y + b) % (q : Int)] := by
      show addl q b ((gf fs i).map fun x => c * x % (q : Int)) = _
      rw [er]
      unfold addl
      rw [List.dropLast_concat]
      simp
    have eo : (O.lst ((gf fs i).map fun x => O.d (.int (c * x % (q : Int))))) = ilO (r0 ++ [y]) := by
      rw [← er]
      unfold ilO
      rw [List.map_map]; rfl
    rw [eo] at lc
    have li := last_il r0 y
    have st := stl_il r0 y ((y + b) % (q : Int)) lr
    have tp : on1 fTuple [ilO (r0 ++ [(y + b) % (q : Int)])] = some (.d (itp (r0 ++ [(y + b) % (q : Int)]))) := tup_m (f := D.int)
    rw [el]
    generalize itp (r0 ++ [(y + b) % (q : Int)]) = R at *
    have a : fIx (foO fs) (.d (.int (i : Int))) = some (.d (.tup ((gf fs i).map D.int))) := a
    generalize (gf fs i).map D.int = A at *
    generalize lnD (.sc c i b) = L at *
    unfold foO ilO at *
    generalize (fs.map fun f => O.d (itp f)) = FO at *
    generalize ((r0 ++ [y]).map fun x => O.d (.int x)) = W1 at *
    generalize hW : ((r0 ++ [(y + b) % (q : Int)]).map fun x => O.d (.int x)) = W2 at *
    generalize itp own = OW at *
    generalize (i : Int) = i' at *
    generalize hv : (y + b) % (q : Int) = v at *
    generalize (q : Int) = q' at *
    unfold sAdd sTim sSca at *
    refine' R_line_form (e := _) ?_ ?_
    rotate_left 1
    · unfold b_line_form
      refine seqA (by simp [i0, s1] <;> rfl) ?_
      simp only [MX.z7]
      refine seqA (by simp [i0, s2] <;> rfl) ?_
      simp only [MX.z7]
      refine seqA (by simp [i1, i2, a, lc] <;> rfl) ?_
      simp only [MX.z7]
      refine seqA (by simp [li, i3, y17 qp, hv, st] <;> rfl) ?_
      simp only [MX.z7]
      exact Eq.trans (by simp [tp] <;> rfl) rfl
    · rfl
end K01
namespace K01
open PySem L2 MX LA
theorem idx_tn {l : List Nat} {x : Nat} (h : x ∈ l) : fTupIdx (.d (.tup (l.map di))) [.d (.int (x : Int))] = some (.d (.int ((l.idxOf x : Nat) : Int))) := by
  unfold fTupIdx
  rw [if_pos (show (O.d (.tup (l.map di))).ty = "tuple" from rfl)]
  unfold fIndex
  have si : (O.d (.tup (l.map di))).seqInts = some (nI l) := intsD_di l
  rw [si]
  have hm : ((x : Nat) : Int) ∈ nI l := List.mem_map.mpr ⟨x, h, rfl⟩
  show (if ((x : Nat) : Int) ∈ nI l then some (O.d (.int ((nI l).idxOf ((x : Nat) : Int) : Nat))) else none) = _
  rw [if_pos hm, nI_idx]
def bwW (s : Sh) : Nat := (bw s).length + 1
def own (s : Sh) (k : Nat) : List Int := if s.n + k ∈ bw s then ur (bwW s) ((bw s).idxOf (s.n + k)) else []
def wfs (q : Int) (s : Sh) : List (Nat × Ln) → List (List Int) → List (List Int)
  | [], fs => fs
  | p :: ps, fs => wfs q s ps (fs ++ [lform q fs (own s p.1) p.2])
theorem bw_len (s : Sh) : (bw s).length ≤ s.n + s.ls.length := by
  unfold bw
  rw [List.length_append, List.length_range, List.length_map]
  have := tms_len s.ls
  omega
theorem own_val (s : Sh) (hs : ShOk s) (k : Nat) (q : Int) (P1 P4 s5 s6 : Sl) : dIf (dTst (dBin fInU (vS 7) (vS 2))) (dCallF d_unit_row [0, 1] (cCons (gName 3) (cCons (gVal (dOr (dMeth "tuple" fTupIdx (vS 2) (vCons (vS 7) vNil)) (dMeth "list" fLstIdx (vS 2) (vCons (vS 7) vNil)))) cNil))) (dTup aNil)
    [.p (.d (.int q)), P1, .v (.d (.tup ((bw s).map di))), .v (.d (.int (bwW s : Nat))), P4, s5, s6, .v (.d (.int ((s.n + k : Nat) : Int))), s8] = .ok (.d (itp (own s k))) [.p (.d (.int q)), P1, .v (.d (.tup ((bw s).map di))), .v (.d (.int (bwW s : Nat))), P4, s5, s6, .v (.d (.int ((s.n + k : Nat) : Int))), s8] := by
  have n16 := hs.n16
  have l60 := hs.l60
  have bl := bw_len s
  have inn := in_tup ((s.n + k : Nat) : Int) (bw s)
  have hmem : memI ((s.n + k : Nat) : Int) (bw s) = decide (s.n + k ∈ bw s) := by
    unfold memI
    rw [Bool.eq_iff_iff, decide_eq_true_iff, decide_eq_true_iff]
    constructor
    · intro h
      obtain ⟨x, hx, e⟩ := List.mem_map.mp h
      have : x = s.n + k := by omega
      rw [← this]; exact hx
    · intro h
      exact List.mem_map.mpr ⟨_, h, rfl⟩
  rw [hmem] at inn
  by_cases h : s.n + k ∈ bw s
  · rw [decide_eq_true h] at inn
    have ix := idx_tn h
    have hlt : (bw s).idxOf (s.n + k) < bwW s := by
      have := List.idxOf_lt_length_of_mem h
      unfold bwW; omega
    have u := v_unit hlt (by unfold bwW; omega)
    have eo : own s k = ur (bwW s) ((bw s).idxOf (s.n + k)) := by unfold own; rw [if_pos h]
    have ty : (O.d (.tup ((bw s).map di))).ty = "tuple" := rfl
    rw [eo]
    generalize itp (ur (bwW s) ((bw s).idxOf (s.n + k))) = R at *
    generalize ((s.n + k : Nat) : Int) = y at *
    generalize (((bw s).idxOf (s.n + k) : Nat) : Int) = z at *
    generalize ((bwW s : Nat) : Int) = w at *
    generalize D.tup ((bw s).map di) = B at *
    simp [inn, ty, ix, u, orR]
  · rw [decide_eq_false h] at inn
    have eo : own s k = [] := by unfold own; rw [if_neg h]
    have z0 : (0 : Nat) ≤ sizeLine := by decide
    rw [eo]
    show _ = Rs.ok (O.d (.tup [])) _
    generalize ((s.n + k : Nat) : Int) = y at *
    generalize ((bwW s : Nat) : Int) = w at *
    generalize D.tup ((bw s).map di) = B at *
    simp [inn]
end K01
namespace K01
open PySem L2 MX LA
def rowOk (q w : Nat) (f : List Int) : Prop := f.length = w ∧ ∀ x ∈ f, 0 ≤ x ∧ x < (q : Int)
theorem ur_ok {q w p : Nat} (hq : 1 < q) (h : p < w) : rowOk q w (ur w p) := ⟨ur_len h, fun x hx => by
  unfold ur at hx
  rcases List.mem_append.mp hx with hx | hx
  · rcases List.mem_append.mp hx with hx | hx
    · rw [List.eq_of_mem_replicate hx]; omega
    · rw [List.mem_singleton.mp hx]; omega
  · rw [List.eq_of_mem_replicate hx]; omega⟩
theorem lform_ok {q w : Nat} {fs : List (List Int)} (h : FQ q w fs) (l : Ln) (hl : lok fs.length l) (own : List Int) (ho : isTi l = true → rowOk q w own) : rowOk q w (lform q fs own l) := by
  have q0 := h.q0
  cases l with
  | ti i j => exact ho rfl
  | ad i j =>
    have a := h.r _ (List.mem_of_getElem? (gf_at hl.1))
    have b := h.r _ (List.mem_of_getElem? (gf_at hl.2))
    show rowOk q w (List.zipWith (fun a b => (a + b) % (q : Int)) (gf fs i) (gf fs j))
    refine ⟨by rw [List.length_zipWith, a.1, b.1, Nat.min_self], fun x hx => ?_⟩
    rw [← zipWm (fun a b => (a + b) % (q : Int))] at hx
    obtain ⟨p, _, rfl⟩ := List.mem_map.mp hx
    exact ⟨Int.emod_nonneg _ (by omega), Int.emod_lt_of_pos _ (by omega)⟩
  | sc c i b =>
    have hi : i < fs.length := hl
    have a := h.r _ (List.mem_of_getElem? (gf_at hi))
    have w0 := h.w0
    show rowOk q w (addl q b ((gf fs i).map fun x => c * x % (q : Int)))
    unfold addl
    refine ⟨by rw [List.length_append, List.length_dropLast, List.length_map, List.length_singleton, a.1]; omega, fun x hx => ?_⟩
    rcases List.mem_append.mp hx with hx | hx
    · obtain ⟨y, _, rfl⟩ := List.mem_map.mp (List.dropLast_subset _ hx)
      exact ⟨Int.emod_nonneg _ (by omega), Int.emod_lt_of_pos _ (by omega)⟩
    · rw [List.mem_singleton.mp hx]
      exact ⟨Int.emod_nonneg _ (by omega), Int.emod_lt_of_pos _ (by omega)⟩
theorem FQ.snoc {q w : Nat} {fs : List (List Int)} (h : FQ q w fs) {f : List Int} (hf : rowOk q w f) : FQ q w (fs ++ [f]) := ⟨h.q0, h.q2, h.w0, h.w2, fun g hg => by
  rcases List.mem_append.mp hg with hg | hg
  · exact h.r g hg
  · rw [List.mem_singleton.mp hg]; exact hf⟩
theorem wf_loop {q : Nat} (s : Sh) (hs : ShOk s) : ∀ (ls : List Ln) (k : Nat) (fs : List (List Int)) (s5 s6 s7 s8 : Sl), FQ q (bwW s) fs → fs.length = s.n + k → lsok (s.n + k) ls → s.n + k + ls.length ≤ 100 → (∀ p ∈ enl k ls, isTi p.2 = true → rowOk q (bwW s) (own s p.1)) → s5.pinned = false → s6.pinned = false → s7.pinned = false → s8.pinned = false → ∃ t5 t6 t7 t8 : Sl,
    sForL (tTupl (tgCons (tName 5) (tgCons (tName 6) tgNil))) l1_wire_forms ((enl k ls).map fun p => .tup [di p.1, lnD p.2]) [.p (.d (.int q)), .p (.d (shD s)), .v (.d (.tup ((bw s).map di))), .v (.d (.int (bwW s : Nat))), .v (foO fs), s5, s6, s7, s8] =
    .nx [.p (.d (.int q)), .p (.d (shD s)), .v (.d (.tup ((bw s).map di))), .v (.d (.int (bwW s : Nat))), .v (foO (wfs q s (enl k ls) fs)), t5, t6, t7, t8]
  | [], k, fs, s5, s6, s7, s8, _, _, _, _, _, _, _, _, _ => ⟨s5, s6, s7, s8, u1⟩
  | l :: ls, k, fs, s5, s6, s7, s8, h, hf, hl, hz, ho, h5, h6, h7, h8 => by
    rw [List.length_cons] at hz
    have lk : lok fs.length l := by rw [hf]; exact hl.1
    have fo := lform_ok h l lk (own s k) (ho (k, l) List.mem_cons_self)
    obtain ⟨t5, t6, t7, t8, ih⟩ := wf_loop s hs ls (k + 1) (fs ++ [lform q fs (own s k) l]) (.v (.d (di k))) (.v (.d (lnD l))) (.v (.d (.int ((s.n + k : Nat) : Int)))) (.v (.d (itp (own s k)))) (h.snoc fo) (by rw [List.length_append, List.length_singleton, hf]; rfl) hl.2 (by omega) (fun p hp => ho p (List.mem_cons_of_mem _ hp)) rfl rfl rfl rfl
    refine ⟨t5, t6, t7, t8, ?_⟩
    have e1 : wfs q s (enl k (l :: ls)) fs = wfs q s (enl (k + 1) ls) (fs ++ [lform q fs (own s k) l]) := rfl
    have e2 : ((enl k (l :: ls)).map fun p => D.tup [di p.1, lnD p.2]) = D.tup [di k, lnD l] :: (enl (k + 1) ls).map fun p => D.tup [di p.1, lnD p.2] := rfl
    rw [e1, e2, ← ih]
    have ov := own_val (s8 := s8) s hs k (q : Int) (.p (.d (shD s))) (.v (foO fs)) (.v (.d (di k))) (.v (.d (lnD l)))
    have vl := v_lineform h l lk (own s k)
    have i0 : fIx (.d (shD s)) (.d (.int 0)) = some (.d (.int (s.n : Int))) := rfl
    have ea : ((s.n : Int) + (k : Int)) = ((s.n + k : Nat) : Int) := by omega
    have hzz : (fs.map fun f => O.d (itp f)).length < sizeLine := by rw [List.length_map, hf]; exact Nat.lt_of_lt_of_le (show s.n + k < 1000 by omega) (by decide)
    have e3 : foO (fs ++ [lform q fs (own s k) l]) = .lst ((fs.map fun f => O.d (itp f)) ++ [.d (itp (lform q fs (own s k) l))]) := by unfold foO; rw [List.map_append]; rfl
    rw [e3]
    unfold foO at *
    generalize hd : dIf (dTst (dBin fInU (vS 7) (vS 2))) (dCallF d_unit_row [0, 1] (cCons (gName 3) (cCons (gVal (dOr (dMeth "tuple" fTupIdx (vS 2) (vCons (vS 7) vNil)) (dMeth "list" fLstIdx (vS 2) (vCons (vS 7) vNil)))) cNil))) (dTup aNil) = dO at *
    generalize itp (lform q fs (own s k) l) = LF at *
    generalize (fs.map fun f => O.d (itp f)) = FO at *
    generalize itp (own s k) = OW at *
    generalize lnD l = L at *
    generalize shD s = S at *
    generalize D.tup ((bw s).map di) = B at *
    generalize ((bwW s : Nat) : Int) = w at *
    unfold di at *
    generalize ((s.n + k : Nat) : Int) = y at *
    generalize (k : Int) = k' at *
    generalize (s.n : Int) = n at *
    generalize (q : Int) = q' at *
    refine for_nx (e1 := [.p (.d (.int q')), .p (.d S), .v (.d B), .v (.d (.int w)), .v (.lst FO), .v (.d (.int k')), .v (.d L), s7, s8]) (by simp [h5, h6]) ?_
    show (sSeq (sAsg (dBin fAdd (vT (dBin fIx (vS 1) (vT (dC (.int 0))))) (vS 5)) (tName 7)) (sSeq (sAsg (dIf (dTst (dBin fInU (vS 7) (vS 2))) (dCallF d_unit_row [0, 1] (cCons (gName 3) (cCons (gVal (dOr (dMeth "tuple" fTupIdx (vS 2) (vCons (vS 7) vNil)) (dMeth "list" fLstIdx (vS 2) (vCons (vS 7) vNil)))) cNil))) (dTup aNil)) (tName 8)) (sExpr (dMut 4 fAppend (aCons (dCallF d_line_form [0, 1, 2, 3] (cCons (gName 0) (cCons (gName 6) (cCons (gName 4) (cCons (gName 8) cNil))))) aNil))))) _ = _
    rw [hd]
    refine seqA (by simp [i0, ea, h7] <;> rfl) ?_
    simp only [MX.z7]
    refine seqA (by simp [ov, h8] <;> rfl) ?_
    simp only [MX.z7]
    exact Eq.trans (by simp [vl, fAppend, hzz] <;> rfl) rfl
end K01
namespace K01
open PySem L2 MX LA
def wforms (q : Int) (s : Sh) : List (List Int) := wfs q s (enl 0 s.ls) ((List.range' 0 s.n).map fun k => ur (bwW s) k)
theorem bwW_gt (s : Sh) {k : Nat} (h : k < s.n) : k < bwW s := by
  unfold bwW bw
  rw [List.length_append, List.length_range]; omega
theorem own_ti {q : Nat} (hq : 1 < q) (s : Sh) {p : Nat × Ln} (hp : p ∈ enl 0 s.ls) (ht : isTi p.2 = true) : rowOk q (bwW s) (own s p.1) := by
  have hm : s.n + p.1 ∈ bw s := by
    unfold bw tms
    exact List.mem_append_right _ (List.mem_map.mpr ⟨p, List.mem_filter.mpr ⟨hp, ht⟩, rfl⟩)
  have eo : own s p.1 = ur (bwW s) ((bw s).idxOf (s.n + p.1)) := by unfold own; rw [if_pos hm]
  rw [eo]
  refine ur_ok hq ?_
  have := List.idxOf_lt_length_of_mem hm
  unfold bwW; omega
theorem v_wireforms {q : Nat} (hq : 1 < q) (h2 : q < 1000) (s : Sh) (hs : ShOk s) : d_wire_forms [.d (.int q), .d (shD s)] = .ok (.d (.tup ((wforms q s).map itp))) [some (.d (.int q)), some (.d (shD s))] := by
  have n16 := hs.n16
  have l60 := hs.l60
  have bl := bw_len s
  have vb := v_basew s hs
  have w900 : bwW s ≤ 900 := by unfold bwW; omega
  have f0 : FQ q (bwW s) ((List.range' 0 s.n).map fun k => ur (bwW s) k) := ⟨by omega, h2, by unfold bwW; omega, w900, fun f hf => by
    obtain ⟨k, hk, rfl⟩ := List.mem_map.mp hf
    have hk := (List.mem_range'_1.mp hk).2
    exact ur_ok hq (bwW_gt s (by omega))⟩
  have lf : ((List.range' 0 s.n).map fun k => ur (bwW s) k).length = s.n + 0 := by rw [List.length_map, List.length_range']; rfl
  obtain ⟨t5, t6, t7, t8, lp⟩ := wf_loop (q := q) s hs s.ls 0 _ .no .no .no .no f0 lf hs.ln (by omega) (fun p hp ht => own_ti hq s hp ht) rfl rfl rfl rfl
  have ew : wfs q s (enl 0 s.ls) ((List.range' 0 s.n).map fun k => ur (bwW s) k) = wforms q s := rfl
  rw [ew, ← enl_enum] at lp
  have lc := lc_m (vs := [7]) (t := tName 7) (el := e1_wire_forms) (f := di) (g := fun k => O.d (itp (ur (bwW s) k))) (e := [.p (.d (.int q)), .p (.d (shD s)), .v (.d (.tup ((bw s).map di))), .v (.d (.int (bwW s : Nat))), .no, .no, .no, .no, .no]) (List.range' 0 s.n) (by rw [List.length_range']; omega) fun k hk => by
    have hk := (List.mem_range'_1.mp hk).2
    have u := v_unit (bwW_gt s (k := k) (by omega)) w900
    generalize itp (ur (bwW s) k) = R at *
    generalize shD s = S at *
    generalize D.tup ((bw s).map di) = B at *
    generalize ((bwW s : Nat) : Int) = w at *
    unfold di
    generalize (k : Int) = k' at *
    exact ⟨[.p (.d (.int q)), .p (.d S), .v (.d B), .v (.d (.int w)), .no, .no, .no, .v (.d (.int k')), .no], by simp, by simp [u], rfl⟩
  have el : O.lst ((List.range' 0 s.n).map fun k => O.d (itp (ur (bwW s) k))) = foO ((List.range' 0 s.n).map fun k => ur (bwW s) k) := by unfold foO; rw [List.map_map]; rfl
  rw [el] at lc
  have i0 : fIx (.d (shD s)) (.d (.int 0)) = some (.d (.int (s.n : Int))) := rfl
  have i1 : fIx (.d (shD s)) (.d (.int 1)) = some (.d (.tup (s.ls.map lnD))) := rfl
  have g := gR1_n (m := s.n) (by omega)
  have g : gR1 [.d (.int (s.n : Int))] = some ((List.range' 0 s.n).map di) := g
  have ge : gEnum [.tup (s.ls.map lnD)] = some (enumL 0 (s.ls.map lnD)) := rfl
  have lU : fLenU [.d (.tup ((bw s).map di))] = some (.d (.int ((bw s).length : Nat))) := by rw [y13, List.length_map]
  have eW : (((bw s).length : Nat) : Int) + 1 = ((bwW s : Nat) : Int) := rfl
  have tp : on1 fTuple [foO (wforms q s)] = some (.d (.tup ((wforms q s).map itp))) := tup_m (f := itp)
  generalize D.tup ((wforms q s).map itp) = R at *
  generalize foO (wforms q s) = FO at *
  unfold foO at *
  generalize (((List.range' 0 s.n).map fun k => ur (bwW s) k).map fun f => O.d (itp f)) = F0 at *
  generalize enumL 0 (s.ls.map lnD) = EN at *
  generalize s.ls.map lnD = TL at *
  generalize (List.range' 0 s.n).map di = IX at *
  generalize D.tup ((bw s).map di) = B at *
  generalize shD s = S at *
  generalize (((bw s).length : Nat) : Int) = bln at *
  generalize ((bwW s : Nat) : Int) = w at *
  generalize (s.n : Int) = n at *
  generalize (q : Int) = q' at *
  refine' R_wire_forms (e := _) ?_ ?_
  rotate_left 1
  · unfold b_wire_forms
    refine seqA (by simp [vb] <;> rfl) ?_
    simp only [MX.z7]
    refine seqA (by simp [lU, eW] <;> rfl) ?_
    simp only [MX.z7]
    refine seqA (by simp [i0, g, lc] <;> rfl) ?_
    simp only [MX.z7]
    refine seqA (Eq.trans (sFor_ok (by simp [i1, ge] <;> rfl)) lp) ?_
    simp only [MX.z7]
    exact Eq.trans (by simp [tp] <;> rfl) rfl
  · rfl
end K01
namespace K01
open PySem L2 MX LA
theorem sm_loop {dR : Den} {A B : O} {xs : List D} (hA : ∀ (k : Nat) (x : D), xs[k]? = some x → fIx A (.d (.int (k : Int))) = some (.d x)) (hB : ∀ (k : Nat) (x : D), xs[k]? = some x → fIx B (.d (.int (k : Int))) = some (.d x))
    (H : ∀ x ∈ xs, dR [.d x, .d x] = .ok (.d (.bl true)) [some (.d x), some (.d x)]) : ∀ (m k : Nat) (s2 : Sl), s2.pinned = false → k + m = xs.length →
    ∃ t2, sForL (tName 2) (l1__law_same dR) (idx k m) [.p A, .p B, s2] = .nx [.p A, .p B, t2]
  | 0, k, s2, h, _ => ⟨s2, by rw [idx_0]; exact u1⟩
  | m + 1, k, s2, h, hk => by
    obtain ⟨t2, ih⟩ := sm_loop hA hB H m (k + 1) (.v (.d (.int (k : Int)))) rfl (by omega)
    refine ⟨t2, ?_⟩
    have e := List.getElem?_eq_getElem (l := xs) (i := k) (by omega)
    have h1 := hA k _ e
    have h2 := hB k _ e
    have h3 := H _ (List.getElem_mem (l := xs) (n := k) (by omega))
    generalize xs[k] = x at *
    rw [idx_s, ← ih]
    exact for_nx (e1 := [.p A, .p B, .v (.d (.int (k : Int)))]) (by simp [h]) (by simp [h1, h2, h3])
theorem same_pl : ∀ (k : Nat) (x : D), itbB k x = true → d__law_same k [.d x, .d x] = .ok (.d (.bl true)) [some (.d x), some (.d x)]
  | 0, x, h => by cases x <;> simp [itbB] at h
  | k + 1, x, h => by
    cases x with
    | tup xs =>
      obtain ⟨hl, hx⟩ := itb_tup.mp h
      obtain ⟨t2, lp⟩ := sm_loop (dR := d__law_same k) (A := .d (.tup xs)) (B := .d (.tup xs)) (xs := xs) (fun _ _ => ix_tp) (fun _ _ => ix_tp) (fun x hx' => same_pl k x (hx x hx')) xs.length 0 .no rfl (by omega)
      have i0 : fIsN (.d (.tup xs)) (.d .non) = some (.d (.bl false)) := rfl
      have i1 : on2 fIsi [.d (.tup xs), .d (.ty "bool")] = some (.d (.bl false)) := rfl
      have i2 : on2 fIsi [.d (.tup xs), .d (.ty "int")] = some (.d (.bl false)) := rfl
      have i3 : on2 fIsi [.d (.tup xs), .d (.ty "str")] = some (.d (.bl false)) := rfl
      have i4 : on2 fIsi [.d (.tup xs), .d (.ty "tuple")] = some (.d (.bl true)) := rfl
      have g := gR1_n (m := xs.length) (by omega)
      refine' R__law_same (e := _) ?_ ?_
      rotate_left 1
      · unfold b__law_same
        simp [i0, i1, i2, i3, i4, g, lp]
        rfl
      · rfl
    | non =>
      have i0 : fIsN (.d .non) (.d .non) = some (.d (.bl true)) := rfl
      refine' R__law_same (e := _) ?_ ?_
      rotate_left 1
      · unfold b__law_same
        simp [i0]
        rfl
      · rfl
    | bl b =>
      have i0 : fIsN (.d (.bl b)) (.d .non) = some (.d (.bl false)) := rfl
      have i1 : on2 fIsi [.d (.bl b), .d (.ty "bool")] = some (.d (.bl true)) := rfl
      have i5 : fEq (.d (.bl b)) (.d (.bl b)) = some (.d (.bl true)) := by cases b <;> rfl
      refine' R__law_same (e := _) ?_ ?_
      rotate_left 1
      · unfold b__law_same
        simp [i0, i1, i5]
        rfl
      · rfl
    | int i =>
      have i0 : fIsN (.d (.int i)) (.d .non) = some (.d (.bl false)) := rfl
      have i1 : on2 fIsi [.d (.int i), .d (.ty "bool")] = some (.d (.bl false)) := rfl
      have i2 : on2 fIsi [.d (.int i), .d (.ty "int")] = some (.d (.bl true)) := rfl
      refine' R__law_same (e := _) ?_ ?_
      rotate_left 1
      · unfold b__law_same
        simp [i0, i1, i2]
        rfl
      · rfl
    | str i =>
      have i0 : fIsN (.d (.str i)) (.d .non) = some (.d (.bl false)) := rfl
      have i1 : on2 fIsi [.d (.str i), .d (.ty "bool")] = some (.d (.bl false)) := rfl
      have i2 : on2 fIsi [.d (.str i), .d (.ty "int")] = some (.d (.bl false)) := rfl
      have i3 : on2 fIsi [.d (.str i), .d (.ty "str")] = some (.d (.bl true)) := rfl
      have i7 : fEq (.d (.str i)) (.d (.str i)) = some (.d (.bl true)) := by
        show some (O.d (.bl (decide (i = i)))) = _
        rw [decide_eq_true rfl]
      refine' R__law_same (e := _) ?_ ?_
      rotate_left 1
      · unfold b__law_same
        simp [i0, i1, i2, i3, i7]
        rfl
      · rfl
    | _ => simp [itbB] at h
end K01
namespace K01
open PySem L2 MX LA
def wval (q : Int) (isn : Bool) (pf : Nat → Int) (ws : List Int) (a : Nat) : Ln → Int
  | .ti i j => if isn = true then (gi ws i * gi ws j) % q else pf a
  | l => lval q ws l
def wnx (a : Nat) (l : Ln) : Nat := if isTi l = true then a + 1 else a
def walkG (q : Int) (isn : Bool) (pf : Nat → Int) : List Ln → List Int → Nat → List Int
  | [], ws, _ => ws
  | l :: ls, ws, a => walkG q isn pf ls (ws ++ [wval q isn pf ws a l]) (wnx a l)
def cnt (ls : List Ln) : Nat := (ls.filter isTi).length
theorem cnt_c (l : Ln) (ls : List Ln) : cnt (l :: ls) = (if isTi l = true then 1 else 0) + cnt ls := by
  unfold cnt
  rw [List.filter_cons]
  split
  · rw [List.length_cons]; omega
  · omega
theorem walkG_len (q : Int) (isn : Bool) (pf : Nat → Int) : ∀ (ls : List Ln) (ws : List Int) (a : Nat), (walkG q isn pf ls ws a).length = ws.length + ls.length
  | [], ws, a => rfl
  | l :: ls, ws, a => by
    show (walkG q isn pf ls (ws ++ [wval q isn pf ws a l]) (wnx a l)).length = _
    rw [walkG_len q isn pf ls, List.length_append, List.length_singleton, List.length_cons]; omega
theorem wk_turn {q m : Nat} {P3 : O} {isn : Bool} {pf : Nat → Int} (h1 : fIsN P3 (.d .non) = some (.d (.bl isn))) (hp : isn = false → ∀ a, a < m → fIx P3 (.d (.int (a : Int))) = some (.d (.int (pf a)))) (P1 P2 : Sl) (s7 : Sl) (l : Ln) (ws : List Int) (a : Nat) (h : RQ q ws) (hl : lok ws.length l) (ha : isTi l = true → isn = false → a < m) (hz : ws.length ≤ 900) :
    l1__law_walk [.p (.d (.int q)), P1, P2, .p P3, .v (ilO ws), .v (.d (.int (a : Int))), .v (.d (lnD l)), s7] = .nx [.p (.d (.int q)), P1, P2, .p P3, .v (ilO (ws ++ [wval q isn pf ws a l])), .v (.d (.int ((wnx a l : Nat) : Int))), .v (.d (lnD l)), s7] := by
  have qp : (0 : Int) < (q : Int) := by have := h.q0; omega
  have e2 : ilO (ws ++ [wval q isn pf ws a l]) = .lst ((ws.map fun x => O.d (.int x)) ++ [.d (.int (wval q isn pf ws a l))]) := by unfold ilO; rw [List.map_append]; rfl
  have hzz : (ws.map fun x => O.d (.int x)).length < sizeLine := by rw [List.length_map]; exact Nat.lt_of_lt_of_le (show ws.length < 1000 by omega) (by decide)
  rw [e2]
  cases l with
  | ad i j =>
    have s1 := se4
    have x := ix_ilO hl.1
    have y := ix_ilO hl.2
    have i0 : fIx (.d (lnD (.ad i j))) (.d (.int 0)) = some (.d sAdd) := rfl
    have i1 : fIx (.d (lnD (.ad i j))) (.d (.int 1)) = some (.d (.int (i : Int))) := rfl
    have i2 : fIx (.d (lnD (.ad i j))) (.d (.int 2)) = some (.d (.int (j : Int))) := rfl
    have ev : wval q isn pf ws a (.ad i j) = (gi ws i + gi ws j) % (q : Int) := rfl
    have en : wnx a (.ad i j) = a := rfl
    rw [ev, en]
    unfold ilO at *
    generalize lnD (.ad i j) = L at *
    generalize (ws.map fun x => O.d (.int x)) = W at *
    generalize gi ws i = vi at *
    generalize gi ws j = vj at *
    generalize (i : Int) = i' at *
    generalize (j : Int) = j' at *
    generalize (a : Int) = a' at *
    generalize (q : Int) = q' at *
    unfold sAdd at *
    simp [i0, s1, i1, i2, x, y, y17 qp, fAppend, hzz]
  | sc c i b =>
    have s1 : fEq (.d sSca) (.d sAdd) = some (.d (.bl false)) := by rfl
    have s2 := se3
    have x := ix_ilO (show i < ws.length from hl)
    have sx := h.sm (show i < ws.length from hl)
    have i0 : fIx (.d (lnD (.sc c i b))) (.d (.int 0)) = some (.d sSca) := rfl
    have i1 : fIx (.d (lnD (.sc c i b))) (.d (.int 1)) = some (.d (.int c)) := rfl
    have i2 : fIx (.d (lnD (.sc c i b))) (.d (.int 2)) = some (.d (.int (i : Int))) := rfl
    have i3 : fIx (.d (lnD (.sc c i b))) (.d (.int 3)) = some (.d (.int b)) := rfl
    have ev : wval q isn pf ws a (.sc c i b) = (c * gi ws i + b) % (q : Int) := rfl
    have en : wnx a (.sc c i b) = a := rfl
    rw [ev, en]
    unfold ilO at *
    generalize lnD (.sc c i b) = L at *
    generalize (ws.map fun x => O.d (.int x)) = W at *
    generalize gi ws i = vi at *
    generalize (i : Int) = i' at *
    generalize (a : Int) = a' at *
    generalize (q : Int) = q' at *
    unfold sAdd sSca at *
    simp [i0, s1, s2, i1, i2, i3, x, y16 sx, y17 qp, fAppend, hzz]
  | ti i j =>
    have s1 := se5
    have s2 := se2
    have x := ix_ilO hl.1
    have y := ix_ilO hl.2
    have sx := h.sm hl.1
    have i0 : fIx (.d (lnD (.ti i j))) (.d (.int 0)) = some (.d sTim) := rfl
    have i1 : fIx (.d (lnD (.ti i j))) (.d (.int 1)) = some (.d (.int (i : Int))) := rfl
    have i2 : fIx (.d (lnD (.ti i j))) (.d (.int 2)) = some (.d (.int (j : Int))) := rfl
    have en : ((wnx a (.ti i j) : Nat) : Int) = (a : Int) + 1 := rfl
    rw [en]
    cases isn with
    | true =>
      have ev : wval q true pf ws a (.ti i j) = (gi ws i * gi ws j) % (q : Int) := rfl
      rw [ev]
      clear hp ha
      unfold ilO at *
      generalize lnD (.ti i j) = L at *
      generalize (ws.map fun x => O.d (.int x)) = W at *
      generalize gi ws i = vi at *
      generalize gi ws j = vj at *
      generalize (i : Int) = i' at *
      generalize (j : Int) = j' at *
      generalize (a : Int) = a' at *
      generalize (q : Int) = q' at *
      unfold sAdd sSca sTim at *
      simp [i0, s1, s2, i1, i2, x, y, h1, y15 sx, y17 qp, fAppend, hzz]
    | false =>
      have ev : wval q false pf ws a (.ti i j) = pf a := rfl
      rw [ev]
      have pa := hp rfl a (ha rfl rfl)
      clear hp ha
      unfold ilO at *
      generalize lnD (.ti i j) = L at *
      generalize (ws.map fun x => O.d (.int x)) = W at *
      generalize pf a = p at *
      generalize (a : Int) = a' at *
      generalize (q : Int) = q' at *
      unfold sAdd sSca sTim at *
      simp [i0, s1, s2, h1, pa, fAppend, hzz]
end K01
namespace K01
open PySem L2 MX LA
theorem wval_r {q m : Nat} (h : 0 < q) {isn : Bool} {pf : Nat → Int} (hr : isn = false → ∀ a, a < m → 0 ≤ pf a ∧ pf a < (q : Int)) (ws : List Int) (l : Ln) (a : Nat) (ha : isTi l = true → isn = false → a < m) : 0 ≤ wval q isn pf ws a l ∧ wval q isn pf ws a l < (q : Int) := by
  cases l with
  | ti i j =>
    cases isn with
    | true => exact ⟨Int.emod_nonneg _ (by omega), Int.emod_lt_of_pos _ (by omega)⟩
    | false => exact hr rfl a (ha rfl rfl)
  | ad i j => exact ⟨Int.emod_nonneg _ (by omega), Int.emod_lt_of_pos _ (by omega)⟩
  | sc c i b => exact ⟨Int.emod_nonneg _ (by omega), Int.emod_lt_of_pos _ (by omega)⟩
theorem wk_loop {q m : Nat} {P3 : O} {isn : Bool} {pf : Nat → Int} (h1 : fIsN P3 (.d .non) = some (.d (.bl isn))) (hp : isn = false → ∀ a, a < m → fIx P3 (.d (.int (a : Int))) = some (.d (.int (pf a)))) (hr : isn = false → ∀ a, a < m → 0 ≤ pf a ∧ pf a < (q : Int)) (P1 P2 s7 : Sl) :
    ∀ (ls : List Ln) (ws : List Int) (a : Nat) (s6 : Sl), RQ q ws → lsok ws.length ls → (isn = false → a + cnt ls ≤ m) → ws.length + ls.length ≤ 900 → s6.pinned = false → ∃ (a' : Nat) (t6 : Sl),
    sForL (tName 6) l1__law_walk (ls.map lnD) [.p (.d (.int q)), P1, P2, .p P3, .v (ilO ws), .v (.d (.int (a : Int))), s6, s7] = .nx [.p (.d (.int q)), P1, P2, .p P3, .v (ilO (walkG q isn pf ls ws a)), .v (.d (.int (a' : Int))), t6, s7]
  | [], ws, a, s6, _, _, _, _, _ => ⟨a, s6, u1⟩
  | l :: ls, ws, a, s6, h, hl, hm, hz, h6 => by
    rw [List.length_cons] at hz
    have ha : isTi l = true → isn = false → a < m := fun e1 e2 => by
      have := hm e2
      rw [cnt_c, if_pos e1] at this
      omega
    have tu := wk_turn h1 hp P1 P2 s7 l ws a h hl.1 ha (by omega)
    have hv := wval_r h.q0 hr ws l a ha
    have h' : RQ q (ws ++ [wval q isn pf ws a l]) := ⟨h.q0, h.q2, fun x hx => by
      rcases List.mem_append.mp hx with hx | hx
      · exact h.r x hx
      · rw [List.mem_singleton.mp hx]; exact hv⟩
    obtain ⟨a', t6, ih⟩ := wk_loop h1 hp hr P1 P2 s7 ls (ws ++ [wval q isn pf ws a l]) (wnx a l) (.v (.d (lnD l))) h' (by rw [List.length_append, List.length_singleton]; exact hl.2) (fun e2 => by
      have := hm e2
      rw [cnt_c] at this
      unfold wnx
      split at this <;> rename_i c
      · rw [if_pos c]; omega
      · rw [if_neg c]; omega) (by rw [List.length_append, List.length_singleton]; omega) rfl
    refine ⟨a', t6, ?_⟩
    have e3 : walkG q isn pf (l :: ls) ws a = walkG q isn pf ls (ws ++ [wval q isn pf ws a l]) (wnx a l) := rfl
    rw [e3, List.map_cons, ← ih]
    unfold ilO at *
    exact for_nx (e1 := [.p (.d (.int q)), P1, P2, .p P3, .v (.lst (ws.map fun x => .d (.int x))), .v (.d (.int (a : Int))), .v (.d (lnD l)), s7]) (by simp [h6]) tu
theorem v_walk {q m : Nat} (hq : 0 < q) (h2 : q < 1000) (s : Sh) (hs : ShOk s) {P3 : O} {isn : Bool} {pf : Nat → Int} (h1 : fIsN P3 (.d .non) = some (.d (.bl isn))) (hp : isn = false → ∀ a, a < m → fIx P3 (.d (.int (a : Int))) = some (.d (.int (pf a)))) (hr : isn = false → ∀ a, a < m → 0 ≤ pf a ∧ pf a < (q : Int)) (hm : isn = false → cnt s.ls ≤ m)
    {X X' : O} (xs : List Int) (hX : ∀ s3 s4 s5 s6 s7, iAny (dVar 2) [.p (.d (.int q)), .p (.d (shD s)), .p X, s3, s4, s5, s6, s7] = .ok (xs.map D.int) [.p (.d (.int q)), .p (.d (shD s)), .p X', s3, s4, s5, s6, s7]) (hl : xs.length = s.n) :
    d__law_walk [.d (.int q), .d (shD s), X, P3] = .ok (ilO (walkG q isn pf s.ls (insR q xs) 0)) [some (.d (.int q)), some (.d (shD s)), some X', some P3] := by
  have qp : (0 : Int) < (q : Int) := by omega
  have n16 := hs.n16
  have l60 := hs.l60
  have il : (insR q xs).length = s.n := by unfold insR; rw [List.length_map, hl]
  have lc := lc_m (vs := [7]) (t := tName 7) (el := e1__law_walk) (f := D.int) (g := fun x => O.d (.int (x % (q : Int)))) (e := [.p (.d (.int q)), .p (.d (shD s)), .p X', .p P3, .no, .no, .no, .no]) xs (by omega) fun x _ => by
    generalize shD s = S at *
    exact ⟨[.p (.d (.int q)), .p (.d S), .p X', .p P3, .no, .no, .no, .v (.d (.int x))], by simp, by simp [y17 qp], rfl⟩
  have el : (O.lst (xs.map fun x => O.d (.int (x % (q : Int))))) = ilO (insR q xs) := by unfold ilO insR; rw [List.map_map]; rfl
  rw [el] at lc
  obtain ⟨a', t6, lp⟩ := wk_loop h1 hp hr (.p (.d (shD s))) (.p X') .no s.ls (insR q xs) 0 .no (insR_ok hq h2 xs) (by rw [il]; exact hs.ln) (fun e => by rw [Nat.zero_add]; exact hm e) (by rw [il]; omega) rfl
  have i1 : fIx (.d (shD s)) (.d (.int 1)) = some (.d (.tup (s.ls.map lnD))) := rfl
  have hX := hX (.p P3) .no .no .no .no
  clear hp hr h1
  unfold ilO at *
  generalize ((walkG q isn pf s.ls (insR q xs) 0).map fun x => O.d (.int x)) = WO at *
  generalize ((insR q xs).map fun x => O.d (.int x)) = IO at *
  generalize s.ls.map lnD = Z at *
  generalize shD s = S at *
  generalize xs.map D.int = XI at *
  generalize (a' : Int) = a'' at *
  generalize (q : Int) = q' at *
  refine' R__law_walk (e := [.p (.d (.int q')), .p (.d S), .p X', .p P3, .no, .v (.d (.int a'')), t6, .no]) ?_ rfl
  unfold b__law_walk
  refine seqA (o := .nx [.p (.d (.int q')), .p (.d S), .p X', .p P3, .v (.lst IO), .v (.d (.int 0)), .no, .no]) (by simp [sPar, hX, lc, -MX.z85]) ?_
  simp only [MX.z7]
  refine seqA (Eq.trans (sFor_ok (by simp [i1] <;> rfl)) lp) ?_
  simp only [MX.z7]
  simp
end K01
namespace K01
open PySem L2 MX LA
theorem walkG_true (q : Int) (pf : Nat → Int) : ∀ (ls : List Ln) (ws : List Int) (a : Nat), walkG q true pf ls ws a = walk q ls ws
  | [], _, _ => rfl
  | l :: ls, ws, a => by
    have e : wval q true pf ws a l = lval q ws l := by cases l <;> rfl
    show walkG q true pf ls (ws ++ [wval q true pf ws a l]) (wnx a l) = walk q ls (ws ++ [lval q ws l])
    rw [e, walkG_true q pf ls]
def gl (ls : List Ln) (k : Nat) : Ln := ls.getD k (.ad 0 0)
theorem gl_at {ls : List Ln} {k : Nat} (h : k < ls.length) : ls[k]? = some (gl ls k) := by
  unfold gl
  rw [List.getD_eq_getElem?_getD, List.getElem?_eq_getElem h]; rfl
theorem enl_get : ∀ (k : Nat) (ls : List Ln) (i : Nat), (enl k ls)[i]? = ls[i]?.map fun l => (k + i, l)
  | _, [], i => by simp [enl]
  | k, l :: ls, 0 => rfl
  | k, l :: ls, i + 1 => by
    show (enl (k + 1) ls)[i]? = _
    rw [enl_get (k + 1) ls i, List.getElem?_cons_succ, Nat.add_right_comm]; rfl
theorem enl_range (ls : List Ln) : enl 0 ls = (List.range' 0 ls.length).map fun k => (k, gl ls k) := by
  refine List.ext_getElem? fun i => ?_
  rw [enl_get, ← List.range_eq_range', List.getElem?_map]
  by_cases h : i < ls.length
  · rw [gl_at h, List.getElem?_range h, Nat.zero_add]; rfl
  · rw [List.getElem?_eq_none (by omega), List.getElem?_eq_none (by rw [List.length_range]; omega)]; rfl
theorem v_lbase (s : Sh) (hs : ShOk s) : d__law_base [.d (shD s)] = .ok (.lst ((bw s).map fun i => .d (di i))) [some (.d (shD s))] := by
  have n16 := hs.n16
  have l60 := hs.l60
  have i0 : fIx (.d (shD s)) (.d (.int 0)) = some (.d (.int (s.n : Int))) := rfl
  have i1 : fIx (.d (shD s)) (.d (.int 1)) = some (.d (.tup (s.ls.map lnD))) := rfl
  have hb : rgB 0 (s.n : Int) = true := rgB_q (by omega)
  have hr := rgD_q (q := s.n) (by omega)
  have lU : fLenU [.d (.tup (s.ls.map lnD))] = some (.d (.int (s.ls.length : Nat))) := by rw [y13, List.length_map]
  have g := gR1_n (m := s.ls.length) (by omega)
  have g : gR1 [.d (.int ((s.ls.length : Nat) : Int))] = some ((List.range' 0 s.ls.length).map di) := g
  have lc := lc_mf (vs := [1]) (t := tName 1) (c := c1__law_base) (el := e1__law_base) (f := di) (g := fun k => O.d (di (s.n + k))) (P := fun k => isTi (gl s.ls k)) (e := [.p (.d (shD s)), .no]) (List.range' 0 s.ls.length) (by rw [List.length_range']; omega) fun k hk => by
    have hk := (List.mem_range'_1.mp hk).2
    have ik : fIx (.d (.tup (s.ls.map lnD))) (.d (.int (k : Int))) = some (.d (lnD (gl s.ls k))) := ix_tp (by rw [List.getElem?_map, gl_at (by omega)]; rfl)
    have e0 : ∃ st, fIx (.d (lnD (gl s.ls k))) (.d (.int 0)) = some (.d (.str st)) ∧ fEq (.d (.str st)) (.d sTim) = some (.d (.bl (isTi (gl s.ls k)))) := by
      cases gl s.ls k with
      | ad i j => exact ⟨_, rfl, se6⟩
      | ti i j => exact ⟨_, rfl, se7⟩
      | sc a i b => exact ⟨_, rfl, se8⟩
    obtain ⟨st, j0, e0⟩ := e0
    have ed : di (s.n + k) = .int ((s.n : Int) + (k : Int)) := by unfold di; rw [Int.natCast_add]
    rw [ed]
    generalize isTi (gl s.ls k) = b at *
    generalize lnD (gl s.ls k) = L at *
    generalize D.tup (s.ls.map lnD) = TL at *
    generalize shD s = S at *
    unfold di sTim at *
    generalize (k : Int) = k' at *
    generalize (s.n : Int) = n at *
    exact ⟨[.p (.d S), .v (.d (.int k'))], by simp, by simp [i1, ik, j0, e0], fun _ => by simp [i0], rfl⟩
  have ca : fAdd (.lst (((List.range s.n).map di).map O.d)) (.lst (((List.range' 0 s.ls.length).filter fun k => isTi (gl s.ls k)).map fun k => O.d (di (s.n + k)))) = some (.lst ((bw s).map fun i => .d (di i))) := by
    have e1 : (((List.range' 0 s.ls.length).filter fun k => isTi (gl s.ls k)).map fun k => O.d (di (s.n + k))) = (((tms s.ls).map fun p => s.n + p.1).map di).map O.d := by
      unfold tms
      rw [enl_range, List.filter_map, List.map_map, List.map_map, List.map_map]; rfl
    have e2 : ((bw s).map fun i => O.d (di i)) = ((List.range s.n).map di).map O.d ++ (((tms s.ls).map fun p => s.n + p.1).map di).map O.d := by
      unfold bw
      simp only [List.map_append, List.map_map]; rfl
    have tl := tms_len s.ls
    rw [e1, e2, ← List.map_append]
    exact ls_cat (by rw [List.length_map, List.length_range, List.length_map, List.length_map]; omega)
  generalize ((bw s).map fun i => O.d (di i)) = R at *
  generalize (((List.range' 0 s.ls.length).filter fun k => isTi (gl s.ls k)).map fun k => O.d (di (s.n + k))) = L1 at *
  generalize (List.range s.n).map di = RG at *
  generalize (List.range' 0 s.ls.length).map di = IX at *
  generalize s.ls.map lnD = TL at *
  generalize shD s = S at *
  generalize (s.n : Int) = n at *
  generalize ((s.ls.length : Nat) : Int) = m at *
  refine' R__law_base (e := _) ?_ ?_
  rotate_left 1
  · unfold b__law_base
    exact Eq.trans (by simp [i0, hb, hr, i1, lU, g, lc, ca, -MX.y13] <;> rfl) rfl
  · rfl
end K01
namespace K01
open PySem L2 MX LA
def dotF : List Int → List Int → Int
  | [b], _ => b
  | f :: fs, v :: vs => f * v + dotF fs vs
  | _, _ => 0
theorem dot_add : ∀ (f g v : List Int), f.length = v.length + 1 → g.length = v.length + 1 → dotF (List.zipWith (fun a b => a + b) f g) v = dotF f v + dotF g v
  | [a], [b], [], _, _ => rfl
  | a :: f, b :: g, x :: v, hf, hg => by
    have hf' : f.length = v.length + 1 := by simpa using hf
    have hg' : g.length = v.length + 1 := by simpa using hg
    have ih := dot_add f g v hf' hg'
    obtain ⟨f0, f1, rfl⟩ : ∃ x y, f = x :: y := by cases f with | nil => simp at hf' | cons x y => exact ⟨x, y, rfl⟩
    obtain ⟨g0, g1, rfl⟩ : ∃ x y, g = x :: y := by cases g with | nil => simp at hg' | cons x y => exact ⟨x, y, rfl⟩
    show (a + b) * x + dotF (List.zipWith (fun a b => a + b) (f0 :: f1) (g0 :: g1)) v = a * x + dotF (f0 :: f1) v + (b * x + dotF (g0 :: g1) v)
    rw [ih]
    grind
  | [], _, _, hf, _ => by simp at hf
  | _ :: _, [], _, _, hg => by simp at hg
  | [_], _ :: _ :: _, [], _, hg => by simp at hg
  | _ :: _ :: _, _, [], hf, _ => by simp at hf
theorem dot_cg {q : Int} : ∀ (f g v : List Int), Fa2 (fun a b => q ∣ a - b) f g → q ∣ dotF f v - dotF g v
  | [], [], _, _ => ⟨0, by simp [dotF]⟩
  | [a], [b], v, h => by cases v <;> exact h.1
  | a :: a2 :: f, b :: b2 :: g, [], h => ⟨0, by simp [dotF]⟩
  | a :: a2 :: f, b :: b2 :: g, x :: v, h => by
    obtain ⟨k, hk⟩ := dot_cg (a2 :: f) (b2 :: g) v h.2
    obtain ⟨m, hm⟩ := h.1
    refine ⟨m * x + k, ?_⟩
    show a * x + dotF (a2 :: f) v - (b * x + dotF (b2 :: g) v) = _
    have e1 : a = b + q * m := by omega
    have e2 : dotF (a2 :: f) v = dotF (b2 :: g) v + q * k := by omega
    rw [e1, e2]
    grind
  | [], _ :: _, _, h => h.elim
  | _ :: _, [], _, h => h.elim
  | [_], _ :: _ :: _, _, h => h.2.elim
  | _ :: _ :: _, [_], _, h => h.2.elim
theorem fa2_map {q : Int} (g : Int → Int) (f : List Int) : Fa2 (fun a b => q ∣ a - b) (f.map fun x => g x % q) (f.map g) := by
  induction f with
  | nil => trivial
  | cons x f ih => exact ⟨dvd_md q (g x), ih⟩
theorem fa2_zip {q : Int} (g : Int → Int → Int) : ∀ (f h : List Int), Fa2 (fun a b => q ∣ a - b) (List.zipWith (fun a b => g a b % q) f h) (List.zipWith g f h)
  | [], _ => trivial
  | _ :: _, [] => trivial
  | a :: f, b :: h => ⟨dvd_md q (g a b), fa2_zip g f h⟩
theorem dot_scale (c : Int) : ∀ (f v : List Int), dotF (f.map fun x => c * x) v = c * dotF f v
  | [], v => by simp [dotF]
  | [a], v => by cases v <;> rfl
  | a :: b :: f, [] => by simp [dotF]
  | a :: b :: f, x :: v => by
    have ih := dot_scale c (b :: f) v
    show c * a * x + dotF ((b :: f).map fun x => c * x) v = c * (a * x + dotF (b :: f) v)
    rw [ih]
    grind
theorem dot_last : ∀ (f v : List Int) (x d : Int), f.length = v.length → dotF (f ++ [x + d]) v = dotF (f ++ [x]) v + d
  | [], [], x, d, _ => rfl
  | a :: f, y :: v, x, d, h => by
    have ih := dot_last f v x d (by simpa using h)
    cases f with
    | nil =>
      cases v with
      | nil => show a * y + (x + d) = a * y + x + d; omega
      | cons _ _ => simp at h
    | cons b f =>
      show a * y + dotF (b :: f ++ [x + d]) v = a * y + dotF (b :: f ++ [x]) v + d
      rw [ih]; omega
  | [], _ :: _, _, _, h => by simp at h
  | _ :: _, [], _, _, h => by simp at h
end K01
namespace K01
open PySem L2 MX LA
theorem dot_zeros : ∀ v : List Int, dotF (List.replicate (v.length + 1) 0) v = 0
  | [] => rfl
  | x :: v => by
    have ih := dot_zeros v
    rw [List.length_cons, List.replicate_succ]
    rw [List.replicate_succ] at ih ⊢
    show 0 * x + dotF (0 :: List.replicate v.length 0) v = 0
    rw [ih]; omega
theorem ur_succ (w p : Nat) : ur (w + 1) (p + 1) = 0 :: ur w p := by
  unfold ur
  rw [List.replicate_succ, show w + 1 - (p + 1) - 1 = w - p - 1 by omega]; rfl
theorem dot_ur : ∀ (p : Nat) (v : List Int), p < v.length → dotF (ur (v.length + 1) p) v = gi v p
  | _, [], h => by simp at h
  | 0, x :: v, h => by
    have z := dot_zeros v
    have e : ur ((x :: v).length + 1) 0 = 1 :: List.replicate (v.length + 1) 0 := by
      unfold ur
      rw [List.length_cons]; rfl
    rw [e]
    rw [List.replicate_succ] at z ⊢
    show 1 * x + dotF (0 :: List.replicate v.length 0) v = x
    rw [z]; omega
  | p + 1, x :: v, h => by
    have h' : p < v.length := by simpa using h
    have ih := dot_ur p v h'
    rw [List.length_cons, ur_succ]
    have ne : ∃ a f, ur (v.length + 1) p = a :: f := by
      cases hq : ur (v.length + 1) p with
      | nil =>
        have := ur_len (w := v.length + 1) (p := p) (by omega)
        rw [hq] at this
        simp at this
      | cons a f => exact ⟨a, f, rfl⟩
    obtain ⟨a, f, ea⟩ := ne
    rw [ea] at ih ⊢
    show 0 * x + dotF (a :: f) v = gi (x :: v) (p + 1)
    rw [ih, Int.zero_mul, Int.zero_add]; rfl
def tell (q : Nat) (v : List Int) (fs : List (List Int)) (ws : List Int) : Prop := fs.length = ws.length ∧ ∀ i, i < ws.length → dotF (gf fs i) v % (q : Int) = gi ws i
theorem tell_ad {q : Nat} {v : List Int} {f g : List Int} (hf : f.length = v.length + 1) (hg : g.length = v.length + 1) : dotF (List.zipWith (fun a b => (a + b) % (q : Int)) f g) v % (q : Int) = (dotF f v % (q : Int) + dotF g v % (q : Int)) % (q : Int) := by
  have h1 := dvd_eq (dot_cg _ _ v (fa2_zip (q := (q : Int)) (fun a b => a + b) f g))
  rw [h1, dot_add f g v hf hg, ← Int.add_emod]
theorem tell_sc {q : Nat} {v : List Int} {f : List Int} (hf : f.length = v.length + 1) (c b : Int) : dotF (addl q b (f.map fun x => c * x % (q : Int))) v % (q : Int) = (c * (dotF f v % (q : Int)) + b) % (q : Int) := by
  obtain ⟨r0, y, er⟩ : ∃ r0 y, f.map (fun x => c * x % (q : Int)) = r0 ++ [y] := by
    have hne : f.map (fun x => c * x % (q : Int)) ≠ [] := fun e => by
      have := congrArg List.length e
      rw [List.length_map, hf, List.length_nil] at this
      omega
    exact ⟨_, _, (List.dropLast_concat_getLast hne).symm⟩
  have lr : r0.length = v.length := by
    have := congrArg List.length er
    rw [List.length_map, hf, List.length_append, List.length_singleton] at this
    omega
  have h1 := dot_cg _ _ v (fa2_map (q := (q : Int)) (fun x => c * x) f)
  rw [er, dot_scale] at h1
  have ea : addl q b (r0 ++ [y]) = r0 ++ [(y + b) % (q : Int)] := by
    unfold addl
    rw [List.dropLast_concat]; simp
  rw [er, ea]
  obtain ⟨m, hm⟩ := dvd_md (q : Int) (y + b)
  have ey : (y + b) % (q : Int) = y + (b + (q : Int) * m) := by omega
  rw [ey, dot_last r0 v y _ lr]
  obtain ⟨k, hk⟩ := h1
  obtain ⟨n, hn⟩ := dvd_md (q : Int) (dotF f v)
  refine dvd_eq ⟨k + m - c * n, ?_⟩
  have e1 : dotF (r0 ++ [y]) v = c * dotF f v + (q : Int) * k := by omega
  have e2 : dotF f v % (q : Int) = dotF f v + (q : Int) * n := by omega
  rw [e1, e2]
  grind
end K01
namespace K01
open PySem L2 MX LA
theorem enl_ge : ∀ (k : Nat) (ls : List Ln), ∀ p ∈ enl k ls, k ≤ p.1
  | _, [], p, h => by cases h
  | k, l :: ls, p, h => by
    rcases List.mem_cons.mp h with rfl | h
    · exact Nat.le_refl _
    · have := enl_ge (k + 1) ls p h; omega
theorem enl_nd : ∀ (k : Nat) (ls : List Ln), ((enl k ls).map (·.1)).Nodup
  | _, [] => List.nodup_nil
  | k, l :: ls => List.nodup_cons.mpr ⟨fun h => by
    obtain ⟨p, hp, e⟩ := List.mem_map.mp h
    have := enl_ge (k + 1) ls p hp
    have e : p.1 = k := e
    omega, enl_nd (k + 1) ls⟩
theorem bw_nd (s : Sh) : (bw s).Nodup := by
  unfold bw
  have h1 : ((tms s.ls).map (·.1)).Nodup := (enl_nd 0 s.ls).sublist (List.Sublist.map _ List.filter_sublist)
  refine List.nodup_append.mpr ⟨List.nodup_range, ?_, fun a ha b hb e => ?_⟩
  · unfold List.Nodup at h1 ⊢
    rw [List.pairwise_map] at h1 ⊢
    exact h1.imp fun h e => h (by omega)
  · obtain ⟨p, _, rfl⟩ := List.mem_map.mp hb
    have := List.mem_range.mp ha
    omega
theorem gf_app {fs : List (List Int)} {f : List Int} {i : Nat} : gf (fs ++ [f]) i = if i < fs.length then gf fs i else if i = fs.length then f else [] := by
  unfold gf
  rw [List.getD_eq_getElem?_getD]
  by_cases h : i < fs.length
  · rw [if_pos h, List.getElem?_append_left h, List.getD_eq_getElem?_getD]
  · rw [if_neg h, List.getElem?_append_right (by omega)]
    by_cases e : i = fs.length
    · subst e; simp
    · rw [if_neg e, List.getElem?_eq_none (by simp; omega)]; rfl
theorem gi_app {ws : List Int} {x : Int} {i : Nat} : gi (ws ++ [x]) i = if i < ws.length then gi ws i else if i = ws.length then x else 0 := by
  unfold gi
  rw [List.getD_eq_getElem?_getD]
  by_cases h : i < ws.length
  · rw [if_pos h, List.getElem?_append_left h, List.getD_eq_getElem?_getD]
  · rw [if_neg h, List.getElem?_append_right (by omega)]
    by_cases e : i = ws.length
    · subst e; simp
    · rw [if_neg e, List.getElem?_eq_none (by simp; omega)]; rfl
theorem tell_snoc {q : Nat} {v : List Int} {fs : List (List Int)} {ws : List Int} (h : tell q v fs ws) {f : List Int} {x : Int} (hx : dotF f v % (q : Int) = x) : tell q v (fs ++ [f]) (ws ++ [x]) := by
  refine ⟨by rw [List.length_append, List.length_append, h.1]; rfl, fun i hi => ?_⟩
  rw [List.length_append, List.length_singleton] at hi
  rw [gf_app, gi_app, h.1]
  by_cases c : i < ws.length
  · rw [if_pos c, if_pos c]; exact h.2 i c
  · have e : i = ws.length := by omega
    rw [if_neg c, if_neg c, if_pos e, if_pos e]; exact hx
theorem tell_step {q : Nat} {v : List Int} {fs : List (List Int)} {ws : List Int} {w : Nat} (hw : w = v.length + 1) (F : FQ q w fs) (h : tell q v fs ws) (l : Ln) (hl : lok ws.length l) (own : List Int) (pf : Nat → Int) (a : Nat) (ho : isTi l = true → dotF own v % (q : Int) = pf a) :
    tell q v (fs ++ [lform q fs own l]) (ws ++ [wval q false pf ws a l]) := by
  refine tell_snoc h ?_
  cases l with
  | ti i j => exact ho rfl
  | ad i j =>
    have a1 := F.r _ (List.mem_of_getElem? (gf_at (by rw [h.1]; exact hl.1)))
    have b1 := F.r _ (List.mem_of_getElem? (gf_at (by rw [h.1]; exact hl.2)))
    show dotF (List.zipWith (fun a b => (a + b) % (q : Int)) (gf fs i) (gf fs j)) v % (q : Int) = (gi ws i + gi ws j) % (q : Int)
    rw [tell_ad (by rw [a1.1, hw]) (by rw [b1.1, hw]), h.2 i hl.1, h.2 j hl.2]
  | sc c i b =>
    have hi : i < ws.length := hl
    have a1 := F.r _ (List.mem_of_getElem? (gf_at (by rw [h.1]; exact hi)))
    show dotF (addl q b ((gf fs i).map fun x => c * x % (q : Int))) v % (q : Int) = (c * gi ws i + b) % (q : Int)
    rw [tell_sc (by rw [a1.1, hw]), h.2 i hi]
end K01
namespace K01
open PySem L2 MX LA
theorem idx_bw (s : Sh) {a k : Nat} {l : Ln} (h : (tms s.ls)[a]? = some (k, l)) : s.n + k ∈ bw s ∧ (bw s).idxOf (s.n + k) = s.n + a := by
  have e : (bw s)[s.n + a]? = some (s.n + k) := by
    unfold bw
    rw [List.getElem?_append_right (by rw [List.length_range]; omega), List.length_range, Nat.add_sub_cancel_left, List.getElem?_map, h]; rfl
  have hm := List.mem_of_getElem? e
  refine ⟨hm, ?_⟩
  have h1 := List.idxOf_lt_length_of_mem hm
  exact (List.getElem?_inj h1 (bw_nd s)).mp (by rw [e, List.getElem?_eq_getElem h1, List.getElem_idxOf h1])
theorem own_tell {q : Nat} (s : Sh) {v : List Int} (hv : v.length = (bw s).length) (hr : ∀ x ∈ v, 0 ≤ x ∧ x < (q : Int)) {a k : Nat} {l : Ln} (h : (tms s.ls)[a]? = some (k, l)) : dotF (own s k) v % (q : Int) = gi v (s.n + a) := by
  obtain ⟨hm, hi⟩ := idx_bw s h
  have hlt := List.idxOf_lt_length_of_mem hm
  have eo : own s k = ur (v.length + 1) (s.n + a) := by
    unfold own bwW
    rw [if_pos hm, hi, hv]
  rw [hi] at hlt
  rw [eo, dot_ur _ _ (by omega)]
  have := hr _ (List.mem_of_getElem? (gi_at (r := v) (j := s.n + a) (by omega)))
  exact Int.emod_eq_of_lt this.1 this.2
theorem wfs_tell {q : Nat} (hq : 1 < q) (s : Sh) {v : List Int} (hv : v.length = (bw s).length) (hr : ∀ x ∈ v, 0 ≤ x ∧ x < (q : Int)) : ∀ (ls : List Ln) (k : Nat) (fs : List (List Int)) (ws : List Int) (pre : List (Nat × Ln)), FQ q (bwW s) fs → tell q v fs ws → ws.length = s.n + k → lsok (s.n + k) ls → tms s.ls = pre ++ (enl k ls).filter (fun p => isTi p.2) →
    tell q v (wfs q s (enl k ls) fs) (walkG q false (fun a => gi v (s.n + a)) ls ws pre.length)
  | [], k, fs, ws, pre, _, h, _, _, _ => h
  | l :: ls, k, fs, ws, pre, F, h, hw, hl, ht => by
    have lk : lok ws.length l := by rw [hw]; exact hl.1
    have lf : lok fs.length l := by rw [h.1]; exact lk
    have e0 : enl k (l :: ls) = (k, l) :: enl (k + 1) ls := rfl
    rw [e0, List.filter_cons] at ht
    have hti : isTi l = true → (tms s.ls)[pre.length]? = some (k, l) := fun e => by
      rw [if_pos e] at ht
      rw [ht, List.getElem?_append_right (Nat.le_refl _), Nat.sub_self]; rfl
    have st := tell_step (w := bwW s) (by unfold bwW; rw [hv]) F h l lk (own s k) (fun a => gi v (s.n + a)) pre.length fun e => own_tell s hv hr (hti e)
    have ro := lform_ok F l lf (own s k) fun e => by
      obtain ⟨hm, hi⟩ := idx_bw s (hti e)
      have hlt := List.idxOf_lt_length_of_mem hm
      unfold own
      rw [if_pos hm]
      exact ur_ok hq (by unfold bwW; omega)
    have e1 : wfs q s (enl k (l :: ls)) fs = wfs q s (enl (k + 1) ls) (fs ++ [lform q fs (own s k) l]) := rfl
    have e2 : walkG q false (fun a => gi v (s.n + a)) (l :: ls) ws pre.length = walkG q false (fun a => gi v (s.n + a)) ls (ws ++ [wval q false (fun a => gi v (s.n + a)) ws pre.length l]) (wnx pre.length l) := rfl
    rw [e1, e2]
    by_cases c : isTi l = true
    · rw [if_pos c] at ht
      have en : wnx pre.length l = (pre ++ [(k, l)]).length := by unfold wnx; rw [if_pos c, List.length_append, List.length_singleton]
      rw [en]
      exact wfs_tell hq s hv hr ls (k + 1) _ _ (pre ++ [(k, l)]) (F.snoc ro) st (by rw [List.length_append, List.length_singleton, hw]; rfl) hl.2 (by rw [ht, List.append_assoc]; rfl)
    · rw [if_neg c] at ht
      have en : wnx pre.length l = pre.length := by unfold wnx; rw [if_neg c]
      rw [en]
      exact wfs_tell hq s hv hr ls (k + 1) _ _ pre (F.snoc ro) st (by rw [List.length_append, List.length_singleton, hw]; rfl) hl.2 ht
end K01
namespace K01
open PySem L2 MX LA
theorem forms_tell {q : Nat} (hq : 1 < q) (h2 : q < 1000) (s : Sh) (hs : ShOk s) {v : List Int} (hv : v.length = (bw s).length) (hr : ∀ x ∈ v, 0 ≤ x ∧ x < (q : Int)) :
    tell q v (wforms q s) (walkG q false (fun a => gi v (s.n + a)) s.ls (v.take s.n) 0) := by
  have n16 := hs.n16
  have l60 := hs.l60
  have bl := bw_len s
  have nb : s.n ≤ (bw s).length := by
    unfold bw
    rw [List.length_append, List.length_range]; omega
  have w900 : bwW s ≤ 900 := by unfold bwW; omega
  have f0 : FQ q (bwW s) ((List.range' 0 s.n).map fun k => ur (bwW s) k) := ⟨by omega, h2, by unfold bwW; omega, w900, fun f hf => by
    obtain ⟨k, hk, rfl⟩ := List.mem_map.mp hf
    have hk := (List.mem_range'_1.mp hk).2
    exact ur_ok hq (bwW_gt s (by omega))⟩
  have lt : (v.take s.n).length = s.n := by rw [List.length_take]; omega
  have t0 : tell q v ((List.range' 0 s.n).map fun k => ur (bwW s) k) (v.take s.n) := by
    refine ⟨by rw [List.length_map, List.length_range', lt], fun i hi => ?_⟩
    rw [lt] at hi
    have e1 : gf ((List.range' 0 s.n).map fun k => ur (bwW s) k) i = ur (v.length + 1) i := by
      unfold gf
      rw [List.getD_eq_getElem?_getD, ← List.range_eq_range', List.getElem?_map, List.getElem?_range hi]
      show ur (bwW s) i = _
      unfold bwW
      rw [hv]
    have e2 : gi (v.take s.n) i = gi v i := by
      unfold gi
      rw [List.getD_eq_getElem?_getD, List.getD_eq_getElem?_getD, List.getElem?_take, if_pos hi]
    rw [e1, e2, dot_ur _ _ (by omega)]
    have := hr _ (List.mem_of_getElem? (gi_at (r := v) (j := i) (by omega)))
    exact Int.emod_eq_of_lt this.1 this.2
  exact wfs_tell hq s hv hr s.ls 0 _ _ [] f0 t0 (by rw [lt]; rfl) hs.ln rfl
end K01
namespace K01
open PySem L2 MX LA
theorem gi_s (x : Int) (f : List Int) (k : Nat) : gi (x :: f) (k + 1) = gi f k := by unfold gi; rw [List.getD_cons_succ]
theorem dot_zero : ∀ (f : List Int) (m : Nat), f.length = m + 1 → dotF f (List.replicate m 0) = gi f m
  | [], m, h => by simp at h
  | [a], 0, _ => rfl
  | [a], m + 1, h => by simp at h
  | a :: b :: f, 0, h => by simp at h
  | a :: b :: f, m + 1, h => by
    have ih := dot_zero (b :: f) m (by simpa using h)
    rw [List.replicate_succ, gi_s]
    show a * 0 + dotF (b :: f) (List.replicate m 0) = _
    rw [ih]; omega
theorem dot_unit : ∀ (f : List Int) (m k : Nat), f.length = m + 1 → k < m → dotF f (ur m k) = gi f k + gi f m
  | [], m, k, h, _ => by simp at h
  | [a], 0, k, _, hk => by omega
  | [a], m + 1, k, h, _ => by simp at h
  | a :: b :: f, 0, k, h, _ => by simp at h
  | a :: b :: f, m + 1, 0, h, _ => by
    have z := dot_zero (b :: f) m (by simpa using h)
    have e : ur (m + 1) 0 = 1 :: List.replicate m 0 := by
      unfold ur
      rw [Nat.sub_zero, Nat.add_sub_cancel]; rfl
    rw [e, gi_s]
    show a * 1 + dotF (b :: f) (List.replicate m 0) = a + _
    rw [z]; omega
  | a :: b :: f, m + 1, k + 1, h, hk => by
    have ih := dot_unit (b :: f) m k (by simpa using h) (by omega)
    rw [ur_succ, gi_s, gi_s]
    show a * 0 + dotF (b :: f) (ur m k) = _
    rw [ih]; omega
def wU (q : Int) (s : Sh) (k : Nat) : List Int := walkG q false (fun a => gi (ur (bw s).length k) (s.n + a)) s.ls ((ur (bw s).length k).take s.n) 0
def wZ (q : Int) (s : Sh) : List Int := walkG q false (fun _ => 0) s.ls (List.replicate s.n 0) 0
def fRow (q : Int) (s : Sh) (m w : Nat) : List Int := (List.range m).map fun k => (gi (wU q s k) w - gi (wZ q s) w) % q
theorem n_le (s : Sh) : s.n ≤ (bw s).length := by
  unfold bw
  rw [List.length_append, List.length_range]; omega
theorem gi_rep (m i : Nat) : gi (List.replicate m 0) i = 0 := by
  unfold gi
  rw [List.getD_eq_getElem?_getD, List.getElem?_replicate]
  split <;> rfl
theorem walkG_cg (q : Int) {pf pf' : Nat → Int} (h : ∀ a, pf a = pf' a) (ls : List Ln) (ws : List Int) (a : Nat) : walkG q false pf ls ws a = walkG q false pf' ls ws a := by
  have e : pf = pf' := funext h
  rw [e]
theorem wU_len (q : Int) (s : Sh) {k : Nat} (hk : k < (bw s).length) : (wU q s k).length = s.n + s.ls.length := by
  have h := n_le s
  unfold wU
  rw [walkG_len, List.length_take, ur_len hk]; omega
theorem wZ_len (q : Int) (s : Sh) : (wZ q s).length = s.n + s.ls.length := by
  unfold wZ
  rw [walkG_len, List.length_replicate]
theorem wfs_rows {q : Nat} (hq : 1 < q) (s : Sh) : ∀ (ls : List Ln) (k : Nat) (fs : List (List Int)), FQ q (bwW s) fs → fs.length = s.n + k → lsok (s.n + k) ls → (∀ p ∈ enl k ls, isTi p.2 = true → rowOk q (bwW s) (own s p.1)) → FQ q (bwW s) (wfs q s (enl k ls) fs)
  | [], k, fs, F, _, _, _ => F
  | l :: ls, k, fs, F, hf, hl, ho => by
    have ro := lform_ok F l (by rw [hf]; exact hl.1) (own s k) fun e => ho (k, l) List.mem_cons_self e
    exact wfs_rows hq s ls (k + 1) _ (F.snoc ro) (by rw [List.length_append, List.length_singleton, hf]; rfl) hl.2 fun p hp => ho p (List.mem_cons_of_mem _ hp)
theorem wforms_FQ {q : Nat} (hq : 1 < q) (h2 : q < 1000) (s : Sh) (hs : ShOk s) : FQ q (bwW s) (wforms q s) := by
  have n16 := hs.n16
  have l60 := hs.l60
  have bl := bw_len s
  have nb := n_le s
  have w900 : bwW s ≤ 900 := by unfold bwW; omega
  have f0 : FQ q (bwW s) ((List.range' 0 s.n).map fun k => ur (bwW s) k) := ⟨by omega, h2, by unfold bwW; omega, w900, fun f hf => by
    obtain ⟨k, hk, rfl⟩ := List.mem_map.mp hf
    have hk := (List.mem_range'_1.mp hk).2
    exact ur_ok hq (bwW_gt s (by omega))⟩
  exact wfs_rows hq s s.ls 0 _ f0 (by rw [List.length_map, List.length_range']; rfl) hs.ln fun p hp ht => own_ti hq s hp ht
theorem forms_zero {q : Nat} (hq : 1 < q) (h2 : q < 1000) (s : Sh) (hs : ShOk s) : tell q (List.replicate (bw s).length 0) (wforms q s) (wZ q s) := by
  have h := forms_tell hq h2 s hs (v := List.replicate (bw s).length 0) List.length_replicate (fun x hx => by rw [List.eq_of_mem_replicate hx]; omega)
  have e1 : (List.replicate (bw s).length (0 : Int)).take s.n = List.replicate s.n 0 := by rw [List.take_replicate, Nat.min_eq_left (n_le s)]
  rw [e1, walkG_cg q (pf' := fun _ => 0) (fun a => gi_rep _ _)] at h
  exact h
theorem forms_unit {q : Nat} (hq : 1 < q) (h2 : q < 1000) (s : Sh) (hs : ShOk s) {k : Nat} (hk : k < (bw s).length) : tell q (ur (bw s).length k) (wforms q s) (wU q s k) :=
  forms_tell hq h2 s hs (v := ur (bw s).length k) (ur_len hk) (ur_ok hq hk).2
theorem forms_row {q : Nat} (hq : 1 < q) (h2 : q < 1000) (s : Sh) (hs : ShOk s) {w : Nat} (hw : w < s.n + s.ls.length) : gf (wforms q s) w = fRow q s (bw s).length w ++ [gi (wZ q s) w] := by
  have F := wforms_FQ hq h2 s hs
  have Z := forms_zero hq h2 s hs
  have zl := wZ_len (q := (q : Int)) s
  have ro := F.r _ (List.mem_of_getElem? (gf_at (fs := wforms q s) (j := w) (by rw [Z.1, zl]; exact hw)))
  have z0 := Z.2 w (by rw [zl]; exact hw)
  have lf : (gf (wforms q s) w).length = (bw s).length + 1 := ro.1
  rw [dot_zero _ _ lf] at z0
  have zm := ro.2 _ (List.mem_of_getElem? (gi_at (r := gf (wforms q s) w) (j := (bw s).length) (by omega)))
  rw [Int.emod_eq_of_lt zm.1 zm.2] at z0
  refine List.ext_getElem? fun i => ?_
  have rl : (fRow q s (bw s).length w).length = (bw s).length := by unfold fRow; rw [List.length_map, List.length_range]
  by_cases h1 : i < (bw s).length
  · rw [List.getElem?_append_left (by rw [rl]; exact h1), gi_at (by omega)]
    unfold fRow
    rw [List.getElem?_map, List.getElem?_range h1]
    have U := (forms_unit hq h2 s hs h1).2 w (by rw [wU_len _ s h1]; exact hw)
    rw [dot_unit _ _ _ lf h1] at U
    have im := ro.2 _ (List.mem_of_getElem? (gi_at (r := gf (wforms q s) w) (j := i) (by omega)))
    show some _ = some ((gi (wU q s i) w - gi (wZ q s) w) % (q : Int))
    rw [← U, ← z0, Int.emod_sub_emod, Int.add_sub_cancel, Int.emod_eq_of_lt im.1 im.2]
  · rw [List.getElem?_append_right (by rw [rl]; omega), rl]
    by_cases h2 : i = (bw s).length
    · subst h2
      rw [Nat.sub_self, gi_at (by omega), z0]; rfl
    · rw [List.getElem?_eq_none (by omega), List.getElem?_eq_none (by rw [List.length_singleton]; omega)]
theorem forms_eq {q : Nat} (hq : 1 < q) (h2 : q < 1000) (s : Sh) (hs : ShOk s) : ((List.range' 0 (s.n + s.ls.length)).map fun w => fRow q s (bw s).length w ++ [gi (wZ q s) w]) = wforms q s := by
  have Z := (forms_zero hq h2 s hs).1
  rw [wZ_len] at Z
  refine List.ext_getElem? fun i => ?_
  rw [List.getElem?_map, ← List.range_eq_range']
  by_cases h : i < s.n + s.ls.length
  · rw [List.getElem?_range h, gf_at (by rw [Z]; exact h), forms_row hq h2 s hs h]; rfl
  · rw [List.getElem?_eq_none (by rw [List.length_range]; omega), List.getElem?_eq_none (by rw [Z]; omega)]; rfl
end K01
namespace K01
open PySem L2 MX LA
theorem sl_io {ws : List Int} {j : Nat} : fSl (ilO ws) none (some (j : Int)) = some (ilO (ws.take j)) := fSl_o (f := D.int)
theorem sl_iof {ws : List Int} {j : Nat} : fSl (ilO ws) (some (j : Int)) none = some (ilO (ws.drop j)) := by
  show (match (fSlL (.lst (ws.map fun v => .d (.int v))) (some (j : Int)) none) with
    | some z => some z
    | none => _) = _
  unfold fSlL
  have e : (O.lst (ws.map fun v => .d (.int v))).ls = some (ws.map D.int) := leafs_m
  rw [e]
  show some (O.lst ((cutD (ws.map D.int) (some (j : Int)) none).map .d)) = _
  rw [cut_frN, ← List.map_drop, List.map_map]
  rfl
theorem lz_cat {xs ys : List D} (h : xs.length + ys.length ≤ 1000000) : fAdd (.d (.lst xs)) (.lst (ys.map .d)) = some (.lst ((xs ++ ys).map .d)) := by
  have h2 : xs.length + ys.length ≤ sizeLine := Nat.le_trans h (by decide)
  show (match fCat (.d (.lst xs)) (.lst (ys.map .d)) with
    | some z => some z
    | none => _) = _
  have e : fCat (.d (.lst xs)) (.lst (ys.map .d)) = some (.lst ((xs ++ ys).map .d)) := by
    unfold fCat
    show (match some xs, leafs (ys.map O.d) with
      | some xs, some ys => if xs.length + ys.length ≤ sizeLine then some (O.lst ((xs ++ ys).map .d)) else none
      | _, _ => none) = _
    rw [leafs_map]
    simp only [if_pos h2]
  rw [e]
theorem ur_eq (m k : Nat) (hk : k < m) : ((List.range' 0 m).map fun j => if ((j : Nat) : Int) = ((k : Nat) : Int) then (1 : Int) else 0) = ur m k := by
  refine List.ext_getElem? fun i => ?_
  rw [List.getElem?_map, ← List.range_eq_range']
  unfold ur
  by_cases hi : i < m
  · rw [List.getElem?_range hi]
    show some (if ((i : Nat) : Int) = ((k : Nat) : Int) then (1 : Int) else 0) = _
    by_cases h1 : i < k
    · rw [if_neg (by omega), List.append_assoc, List.getElem?_append_left (by rw [List.length_replicate]; exact h1), List.getElem?_replicate, if_pos h1]
    · by_cases h2 : i = k
      · subst h2
        rw [if_pos rfl, List.append_assoc, List.getElem?_append_right (by rw [List.length_replicate]; omega), List.length_replicate, Nat.sub_self]; rfl
      · rw [if_neg (by omega), List.getElem?_append_right (by rw [List.length_append, List.length_replicate, List.length_singleton]; omega), List.length_append, List.length_replicate, List.length_singleton, List.getElem?_replicate, if_pos (by omega)]
  · rw [List.getElem?_eq_none (by rw [List.length_range]; omega), List.getElem?_eq_none (by rw [List.length_append, List.length_append, List.length_replicate, List.length_replicate, List.length_singleton]; omega)]; rfl
theorem insR_id {q : Int} {xs : List Int} (h : ∀ x ∈ xs, 0 ≤ x ∧ x < q) : insR q xs = xs := by
  unfold insR
  have : ∀ (xs : List Int), (∀ x ∈ xs, 0 ≤ x ∧ x < q) → xs.map (fun x => x % q) = xs := by
    intro xs
    induction xs with
    | nil => intro _; rfl
    | cons x xs ih =>
      intro h
      have h1 := h x List.mem_cons_self
      rw [List.map_cons, ih (fun y hy => h y (List.mem_cons_of_mem _ hy)), Int.emod_eq_of_lt h1.1 h1.2]
  exact this xs h
theorem it_own (xs : List Int) (P0 P1 s3 s4 s5 s6 s7 : Sl) : iAny (dVar 2) [P0, P1, .p (ilO xs), s3, s4, s5, s6, s7] = .ok (xs.map D.int) [P0, P1, .p (.d (.lst (xs.map D.int))), s3, s4, s5, s6, s7] := by
  have e : fzs (xs.map fun x => O.d (.int x)) = xs.map D.int := fzs_m
  unfold ilO
  simp [e]
theorem v_walkL {q : Nat} (hq : 0 < q) (h2 : q < 1000) (s : Sh) (hs : ShOk s) (xs ps : List Int) (hx : ∀ x ∈ xs, 0 ≤ x ∧ x < (q : Int)) (hp : ∀ x ∈ ps, 0 ≤ x ∧ x < (q : Int)) (hl : xs.length = s.n) (hc : cnt s.ls ≤ ps.length) :
    d__law_walk [.d (.int q), .d (shD s), ilO xs, ilO ps] = .ok (ilO (walkG q false (fun a => gi ps a) s.ls xs 0)) [some (.d (.int q)), some (.d (shD s)), some (.d (.lst (xs.map D.int))), some (ilO ps)] := by
  have k := v_walk hq h2 s hs (m := ps.length) (P3 := ilO ps) (isn := false) (pf := fun a => gi ps a) rfl (fun _ a ha => ix_ilO ha) (fun _ a ha => hp _ (List.mem_of_getElem? (gi_at ha))) (fun _ => hc) (X := ilO xs) (X' := .d (.lst (xs.map D.int))) xs (fun s3 s4 s5 s6 s7 => it_own xs _ _ _ _ _ _ _) hl
  rw [insR_id hx] at k
  exact k
theorem cnt_bw (s : Sh) : cnt s.ls + s.n = (bw s).length := by
  have : ∀ (k : Nat) (ls : List Ln), ((enl k ls).filter fun p => isTi p.2).length = cnt ls := by
    intro k ls
    induction ls generalizing k with
    | nil => rfl
    | cons l ls ih =>
      have e0 : enl k (l :: ls) = (k, l) :: enl (k + 1) ls := rfl
      rw [e0, List.filter_cons, cnt_c, ← ih (k + 1)]
      show (if isTi l = true then (k, l) :: _ else _).length = _
      split
      · rw [List.length_cons]; omega
      · omega
  unfold bw tms
  rw [List.length_append, List.length_range, List.length_map, this]; omega
def fndO (q : Int) (s : Sh) (k : Nat) : O := .lst ((List.range' 0 (s.n + s.ls.length)).map fun w => .d (.lst ((fRow q s k w).map D.int)))
theorem fRow_s (q : Int) (s : Sh) (k w : Nat) : fRow q s (k + 1) w = fRow q s k w ++ [(gi (wU q s k) w - gi (wZ q s) w) % q] := by
  unfold fRow
  rw [List.range_succ, List.map_append]; rfl
theorem fRow_len (q : Int) (s : Sh) (k w : Nat) : (fRow q s k w).length = k := by
  unfold fRow
  rw [List.length_map, List.length_range]
theorem lf_turn {q : Nat} (hq : 1 < q) (h2 : q < 1000) (s : Sh) (hs : ShOk s) {k : Nat} (hk : k < (bw s).length) (s6 s7 : Sl) (h6 : s6.pinned = false) (h7 : s7.pinned = false) :
    l1__law_forms [.p (.d (.int q)), .p (.d (shD s)), .v (.lst ((bw s).map fun i => .d (di i))), .v (.d (.lst ((wZ q s).map D.int))), .v (fndO q s k), .v (.d (.int (k : Int))), s6, s7, .no, .no, .no] =
      .nx [.p (.d (.int q)), .p (.d (shD s)), .v (.lst ((bw s).map fun i => .d (di i))), .v (.d (.lst ((wZ q s).map D.int))), .v (fndO q s (k + 1)), .v (.d (.int (k : Int))), .v (ilO (ur (bw s).length k)), .v (ilO (wU q s k)), .no, .no, .no] := by
  have n16 := hs.n16
  have l60 := hs.l60
  have bl := bw_len s
  have nb := n_le s
  have i0 : fIx (.d (shD s)) (.d (.int 0)) = some (.d (.int (s.n : Int))) := rfl
  have lB : fLenU [.lst ((bw s).map fun i => .d (di i))] = some (.d (.int ((bw s).length : Nat))) := by rw [y14, List.length_map]
  have lZ : fLenU [.d (.lst ((wZ q s).map D.int))] = some (.d (.int ((s.n + s.ls.length : Nat) : Int))) := by rw [y12, List.length_map, wZ_len]
  have g : gR1 [.d (.int (((bw s).length : Nat) : Int))] = some ((List.range' 0 (bw s).length).map di) := gR1_n (m := (bw s).length) (by omega)
  have g' : gR1 [.d (.int ((s.n + s.ls.length : Nat) : Int))] = some ((List.range' 0 (s.n + s.ls.length)).map di) := gR1_n (m := s.n + s.ls.length) (by omega)
  have ro := ur_ok hq hk
  have kW := v_walkL (by omega) h2 s hs ((ur (bw s).length k).take s.n) ((ur (bw s).length k).drop s.n) (fun x hx => ro.2 x (List.mem_of_mem_take hx)) (fun x hx => ro.2 x (List.mem_of_mem_drop hx)) (by rw [List.length_take, ro.1]; omega) (by rw [List.length_drop, ro.1]; have := cnt_bw s; omega)
  have ew : walkG q false (fun a => gi ((ur (bw s).length k).drop s.n) a) s.ls ((ur (bw s).length k).take s.n) 0 = wU q s k := walkG_cg q (fun a => by
    unfold gi
    rw [List.getD_eq_getElem?_getD, List.getD_eq_getElem?_getD, List.getElem?_drop]) _ _ _
  rw [ew] at kW
  have lc1 := lc_m (vs := [9]) (t := tName 9) (el := e2__law_forms) (f := di) (g := fun j => O.d (.int (if ((j : Nat) : Int) = ((k : Nat) : Int) then (1 : Int) else 0))) (e := [.p (.d (.int q)), .p (.d (shD s)), .v (.lst ((bw s).map fun i => .d (di i))), .v (.d (.lst ((wZ q s).map D.int))), .v (fndO q s k), .v (.d (.int (k : Int))), s6, s7, .no, .no, .no]) (List.range' 0 (bw s).length) (by rw [List.length_range']; omega) fun j hj => by
    unfold di
    generalize (j : Int) = j' at *
    generalize (k : Int) = k' at *
    refine ⟨_, by simp <;> rfl, by simp <;> rfl, rfl⟩
  have el : (O.lst ((List.range' 0 (bw s).length).map fun j => O.d (.int (if ((j : Nat) : Int) = ((k : Nat) : Int) then (1 : Int) else 0)))) = ilO (ur (bw s).length k) := by
    rw [← ur_eq _ _ hk]
    unfold ilO
    rw [List.map_map]; rfl
  rw [el] at lc1
  have wzl := wZ_len (q := (q : Int)) s
  have wul := wU_len (q := (q : Int)) s hk
  have lc2 := lc_m (vs := [10]) (t := tName 10) (el := e3__law_forms) (f := di) (g := fun w => O.d (.lst ((fRow q s (k + 1) w).map D.int))) (e := [.p (.d (.int q)), .p (.d (shD s)), .v (.lst ((bw s).map fun i => .d (di i))), .v (.d (.lst ((wZ q s).map D.int))), .v (fndO q s k), .v (.d (.int (k : Int))), .v (ilO (ur (bw s).length k)), .v (ilO (wU q s k)), .no, .no, .no]) (List.range' 0 (s.n + s.ls.length)) (by rw [List.length_range']; omega) fun w hw => by
    have hw := (List.mem_range'_1.mp hw).2
    have j1 : fIx (fndO q s k) (.d (.int (w : Int))) = some (.d (.lst ((fRow q s k w).map D.int))) := ix_lm (f := fun w => .lst ((fRow q s k w).map D.int)) (by rw [← List.range_eq_range', List.getElem?_range (by omega)])
    have j2 := ix_ilO (ws := wU q s k) (i := w) (by omega)
    have j3 : fIx (.d (.lst ((wZ q s).map D.int))) (.d (.int (w : Int))) = some (.d (.int (gi (wZ q s) w))) := ix_ls (by rw [List.getElem?_map, gi_at (by omega)]; rfl)
    have qp : (0 : Int) < (q : Int) := by omega
    have z1 : (1 : Nat) ≤ sizeLine := by decide
    have c := lz_cat (xs := (fRow q s k w).map D.int) (ys := [.int ((gi (wU q s k) w - gi (wZ q s) w) % (q : Int))]) (by rw [List.length_map, fRow_len, List.length_singleton]; omega)
    have ef : ((fRow q s k w).map D.int ++ [.int ((gi (wU q s k) w - gi (wZ q s) w) % (q : Int))]) = (fRow q s (k + 1) w).map D.int := by rw [fRow_s, List.map_append]; rfl
    rw [ef] at c
    have c : fAdd (.d (.lst ((fRow q s k w).map D.int))) (.lst [.d (.int ((gi (wU q s k) w - gi (wZ q s) w) % (q : Int)))]) = _ := c
    have fz : (O.lst (((fRow q s (k + 1) w).map D.int).map .d)).fz = .lst ((fRow q s (k + 1) w).map D.int) := by
      show D.lst (fzs _) = _
      rw [fzs_leaf]
    unfold di
    generalize O.lst (((fRow q s (k + 1) w).map D.int).map .d) = F1 at *
    generalize (fRow q s (k + 1) w).map D.int = FR at *
    generalize (fRow q s k w).map D.int = FK at *
    generalize fndO q s k = FO at *
    unfold ilO at *
    generalize (wU q s k).map (fun x => O.d (.int x)) = UO at *
    generalize (wZ q s).map D.int = ZO at *
    generalize gi (wU q s k) w = u at *
    generalize gi (wZ q s) w = z at *
    generalize (w : Int) = w' at *
    generalize (k : Int) = k' at *
    generalize (q : Int) = q' at *
    refine ⟨_, by simp <;> rfl, by simp [j1, j2, j3, y17 qp, z1, c, fz] <;> rfl, rfl⟩
  have t1 := sl_io (ws := ur (bw s).length k) (j := s.n)
  have t2 := sl_iof (ws := ur (bw s).length k) (j := s.n)
  have eF : fndO q s (k + 1) = .lst ((List.range' 0 (s.n + s.ls.length)).map fun w => .d (.lst ((fRow q s (k + 1) w).map D.int))) := rfl
  rw [← eF] at lc2
  clear eF el ew ro
  generalize fndO q s (k + 1) = F1 at *
  generalize hF : fndO q s k = FO at *
  have hFO : ∃ fo, FO = .lst fo := ⟨_, hF.symm⟩
  obtain ⟨fo, rfl⟩ := hFO
  unfold ilO at *
  generalize ((ur (bw s).length k).take s.n).map D.int = TI at *
  generalize ((ur (bw s).length k).take s.n).map (fun x => O.d (.int x)) = TO at *
  generalize ((ur (bw s).length k).drop s.n).map (fun x => O.d (.int x)) = DO at *
  generalize (ur (bw s).length k).map (fun x => O.d (.int x)) = RO at *
  generalize (wU q s k).map (fun x => O.d (.int x)) = UO at *
  generalize (wZ q s).map D.int = ZO at *
  generalize (List.range' 0 (bw s).length).map di = IX at *
  generalize (List.range' 0 (s.n + s.ls.length)).map di = IW at *
  generalize (bw s).map (fun i => O.d (di i)) = BO at *
  generalize (((bw s).length : Nat) : Int) = b' at *
  generalize ((s.n + s.ls.length : Nat) : Int) = nl' at *
  generalize shD s = S at *
  generalize (s.n : Int) = n at *
  generalize (k : Int) = k' at *
  generalize (q : Int) = q' at *
  refine seqA (by simp [lB, g, lc1, h6, -MX.y14] <;> rfl) ?_
  simp only [MX.z7]
  refine seqA (by simp [i0, t1, t2, kW, h7, z_late] <;> rfl) ?_
  simp only [MX.z7]
  exact Eq.trans (by simp [lZ, g', lc2] <;> rfl) rfl
end K01
namespace K01
open PySem L2 MX LA
theorem lf_loop {q : Nat} (hq : 1 < q) (h2 : q < 1000) (s : Sh) (hs : ShOk s) : ∀ (m k : Nat) (s5 s6 s7 : Sl), k + m = (bw s).length → s5.pinned = false → s6.pinned = false → s7.pinned = false → ∃ t5 t6 t7 : Sl,
    sForL (tName 5) l1__law_forms (idx k m) [.p (.d (.int q)), .p (.d (shD s)), .v (.lst ((bw s).map fun i => .d (di i))), .v (.d (.lst ((wZ q s).map D.int))), .v (fndO q s k), s5, s6, s7, .no, .no, .no] =
      .nx [.p (.d (.int q)), .p (.d (shD s)), .v (.lst ((bw s).map fun i => .d (di i))), .v (.d (.lst ((wZ q s).map D.int))), .v (fndO q s (bw s).length), t5, t6, t7, .no, .no, .no]
  | 0, k, s5, s6, s7, e, _, _, _ => ⟨s5, s6, s7, by
    have e : k = (bw s).length := e
    rw [idx_0, e]; exact u1⟩
  | m + 1, k, s5, s6, s7, e, h5, h6, h7 => by
    have tu := lf_turn hq h2 s hs (k := k) (by omega) s6 s7 h6 h7
    obtain ⟨t5, t6, t7, ih⟩ := lf_loop hq h2 s hs m (k + 1) (.v (.d (.int (k : Int)))) (.v (ilO (ur (bw s).length k))) (.v (ilO (wU q s k))) (by omega) rfl rfl rfl
    refine ⟨t5, t6, t7, ?_⟩
    rw [idx_s, ← ih]
    exact for_nx (e1 := [.p (.d (.int q)), .p (.d (shD s)), .v (.lst ((bw s).map fun i => .d (di i))), .v (.d (.lst ((wZ q s).map D.int))), .v (fndO q s k), .v (.d (.int (k : Int))), s6, s7, .no, .no, .no]) (by simp [h5]) tu
theorem v_lforms {q : Nat} (hq : 1 < q) (h2 : q < 1000) (s : Sh) (hs : ShOk s) : d__law_forms [.d (.int q), .d (shD s)] = .ok (.d (.tup ((wforms q s).map itp))) [some (.d (.int q)), some (.d (shD s))] := by
  have n16 := hs.n16
  have l60 := hs.l60
  have bl := bw_len s
  have nb := n_le s
  have i0 : fIx (.d (shD s)) (.d (.int 0)) = some (.d (.int (s.n : Int))) := rfl
  have vb := v_lbase s hs
  have lB : fLenU [.lst ((bw s).map fun i => .d (di i))] = some (.d (.int ((bw s).length : Nat))) := by rw [y14, List.length_map]
  have lZ : fLenU [.d (.lst ((wZ q s).map D.int))] = some (.d (.int ((s.n + s.ls.length : Nat) : Int))) := by rw [y12, List.length_map, wZ_len]
  have g : gR1 [.d (.int (((bw s).length : Nat) : Int))] = some (idx 0 (bw s).length) := gR1_n (m := (bw s).length) (by omega)
  have g' : gR1 [.d (.int ((s.n + s.ls.length : Nat) : Int))] = some ((List.range' 0 (s.n + s.ls.length)).map di) := gR1_n (m := s.n + s.ls.length) (by omega)
  have rp : ∀ n : Nat, n ≤ 1000 → fMul (.lst [.d (.int 0)]) (.d (.int (n : Int))) = some (ilO (List.replicate n 0)) := fun n hn => by
    have h := ls_rep (xs := [D.int 0]) (k := (n : Int)) (by omega) (by omega) (by rw [Int.toNat_natCast, List.length_singleton]; omega)
    rw [repD_1] at h
    have h : fMul (.lst [.d (.int 0)]) (.d (.int (n : Int))) = _ := h
    rw [h]
    unfold ilO
    rw [List.map_replicate, List.map_replicate]
  have r1 := rp s.n (by omega)
  have r2 := rp ((bw s).length - s.n) (by omega)
  have e2 : (((bw s).length - s.n : Nat) : Int) = ((bw s).length : Int) - (s.n : Int) := by omega
  rw [e2] at r2
  have rr : ∀ m : Nat, ∀ x ∈ List.replicate m (0 : Int), 0 ≤ x ∧ x < (q : Int) := fun m x hx => by rw [List.eq_of_mem_replicate hx]; omega
  have kW := v_walkL (q := q) (by omega) h2 s hs (List.replicate s.n 0) (List.replicate ((bw s).length - s.n) 0) (rr _) (rr _) List.length_replicate (by rw [List.length_replicate]; have := cnt_bw s; omega)
  have ew : walkG q false (fun a => gi (List.replicate ((bw s).length - s.n) 0) a) s.ls (List.replicate s.n 0) 0 = wZ q s := walkG_cg q (fun a => gi_rep _ _) _ _ _
  rw [ew] at kW
  have aZ : any1 (.d (.lst ((wZ q s).map D.int))) = fun e => .ok ((wZ q s).map D.int) e := rfl
  have fzW : fzs ((wZ q s).map fun x => O.d (.int x)) = (wZ q s).map D.int := fzs_m
  have wzl := wZ_len (q := (q : Int)) s
  have lc0 := lc_m (vs := [8]) (t := tName 8) (el := e1__law_forms) (f := D.int) (g := fun _ => O.d (.lst [])) (e := [.p (.d (.int q)), .p (.d (shD s)), .v (.lst ((bw s).map fun i => .d (di i))), .v (.d (.lst ((wZ q s).map D.int))), .no, .no, .no, .no, .no, .no, .no]) (wZ q s) (by omega) fun x _ => by
    have z0 : (0 : Nat) ≤ sizeLine := by decide
    have fz : (O.lst []).fz = .lst [] := rfl
    exact ⟨_, by simp <;> rfl, by simp [z0, fz] <;> rfl, rfl⟩
  have e0 : (O.lst ((wZ q s).map fun _ => O.d (.lst []))) = fndO q s 0 := by
    have h1 : ((wZ q s).map fun _ => O.d (.lst [])) = List.replicate (s.n + s.ls.length) (O.d (.lst [])) := by rw [List.map_const', wzl]
    have h3 : ((List.range' 0 (s.n + s.ls.length)).map fun w => O.d (.lst ((fRow q s 0 w).map D.int))) = List.replicate (s.n + s.ls.length) (O.d (.lst [])) := by
      have : (fun w => O.d (.lst ((fRow (q : Int) s 0 w).map D.int))) = fun _ => O.d (.lst []) := funext fun w => rfl
      rw [this, List.map_const', List.length_range']
    unfold fndO
    rw [h1, h3]
  rw [e0] at lc0
  obtain ⟨t5, t6, t7, lp⟩ := lf_loop hq h2 s hs (bw s).length 0 .no .no .no (by omega) rfl rfl rfl
  have lc2 := lc_m (vs := [10]) (t := tName 10) (el := e4__law_forms) (f := di) (g := fun w => O.d (itp (fRow q s (bw s).length w ++ [gi (wZ q s) w]))) (e := [.p (.d (.int q)), .p (.d (shD s)), .v (.lst ((bw s).map fun i => .d (di i))), .v (.d (.lst ((wZ q s).map D.int))), .v (fndO q s (bw s).length), t5, t6, t7, .no, .no, .no]) (List.range' 0 (s.n + s.ls.length)) (by rw [List.length_range']; omega) fun w hw => by
    have hw := (List.mem_range'_1.mp hw).2
    have j1 : fIx (fndO q s (bw s).length) (.d (.int (w : Int))) = some (.d (.lst ((fRow q s (bw s).length w).map D.int))) := ix_lm (f := fun w => .lst ((fRow q s (bw s).length w).map D.int)) (by rw [← List.range_eq_range', List.getElem?_range (by omega)])
    have j3 : fIx (.d (.lst ((wZ q s).map D.int))) (.d (.int (w : Int))) = some (.d (.int (gi (wZ q s) w))) := ix_ls (by rw [List.getElem?_map, gi_at (by omega)]; rfl)
    have z1 : (1 : Nat) ≤ sizeLine := by decide
    have c := lz_cat (xs := (fRow q s (bw s).length w).map D.int) (ys := [D.int (gi (wZ q s) w)]) (by rw [List.length_map, fRow_len, List.length_singleton]; omega)
    have ef : (((fRow q s (bw s).length w).map D.int ++ [D.int (gi (wZ q s) w)]).map O.d) = (fRow q s (bw s).length w ++ [gi (wZ q s) w]).map fun x => O.d (.int x) := by rw [List.map_append, List.map_append, List.map_map]; rfl
    rw [ef] at c
    have c : fAdd (.d (.lst ((fRow q s (bw s).length w).map D.int))) (.lst [.d (.int (gi (wZ q s) w))]) = _ := c
    have tm := tup_m (l := fRow q s (bw s).length w ++ [gi (wZ q s) w]) (f := D.int)
    unfold di itp
    generalize (fRow q s (bw s).length w ++ [gi (wZ q s) w]).map (fun x => O.d (.int x)) = F1 at *
    generalize (fRow q s (bw s).length w ++ [gi (wZ q s) w]).map D.int = F2 at *
    generalize (fRow q s (bw s).length w).map D.int = FK at *
    generalize fndO q s (bw s).length = FO at *
    generalize (wZ q s).map D.int = ZO at *
    generalize gi (wZ q s) w = z at *
    generalize (w : Int) = w' at *
    refine ⟨_, by simp <;> rfl, by simp [j1, j3, z1, c, tm] <;> rfl, rfl⟩
  have tm := tup_m (l := List.range' 0 (s.n + s.ls.length)) (f := fun w => itp (fRow q s (bw s).length w ++ [gi (wZ q s) w]))
  have er : ((List.range' 0 (s.n + s.ls.length)).map fun w => itp (fRow q s (bw s).length w ++ [gi (wZ q s) w])) = (wforms q s).map itp := by rw [← forms_eq hq h2 s hs, List.map_map]; rfl
  rw [er] at tm
  have eR : (.v (ilO (wZ q s)) : Sl).cont = some (ilO (wZ q s)) := rfl
  clear r1 r2 e2 er e0 ew
  have r1 := rp s.n (by omega)
  have r2 := rp ((bw s).length - s.n) (by omega)
  have e2 : (((bw s).length - s.n : Nat) : Int) = ((bw s).length : Int) - (s.n : Int) := by omega
  rw [e2] at r2
  clear rp rr
  generalize (List.range' 0 (s.n + s.ls.length)).map (fun w => O.d (itp (fRow q s (bw s).length w ++ [gi (wZ q s) w]))) = R1 at *
  generalize (wforms q s).map itp = R2 at *
  generalize fndO q s (bw s).length = F1 at *
  generalize fndO q s 0 = F0 at *
  unfold ilO at *
  generalize (List.replicate s.n (0 : Int)).map D.int = TI at *
  generalize (List.replicate s.n (0 : Int)).map (fun x => O.d (.int x)) = TO at *
  generalize (List.replicate ((bw s).length - s.n) (0 : Int)).map (fun x => O.d (.int x)) = DO at *
  generalize (wZ q s).map (fun x => O.d (.int x)) = UO at *
  generalize (wZ q s).map D.int = ZO at *
  generalize idx 0 (bw s).length = IX at *
  generalize (List.range' 0 (s.n + s.ls.length)).map di = IW at *
  generalize (bw s).map (fun i => O.d (di i)) = BO at *
  generalize (((bw s).length : Nat) : Int) = b' at *
  generalize ((s.n + s.ls.length : Nat) : Int) = nl' at *
  generalize shD s = S at *
  generalize (s.n : Int) = n at *
  generalize (q : Int) = q' at *
  have z1 : (1 : Nat) ≤ sizeLine := by decide
  refine' R__law_forms (e := _) ?_ ?_
  rotate_left 1
  · unfold b__law_forms
    refine seqA (by simp [vb] <;> rfl) ?_
    simp only [MX.z7]
    refine seqA (by simp [i0, lB, z1, r1, r2, kW, z_late, -MX.y14] <;> rfl) ?_
    simp only [MX.z7]
    refine seqA (by simp [fzW, lc0] <;> rfl) ?_
    simp only [MX.z7]
    refine seqA (Eq.trans (sFor_ok (by simp [lB, g, -MX.y14] <;> rfl)) lp) ?_
    simp only [MX.z7]
    exact Eq.trans (by simp [lZ, g', lc2, tm] <;> rfl) rfl
  · rfl
end K01
namespace K01
open PySem L2 MX LA
theorem v_pick (c : List Int) (S : Sx) (h0 : 0 ≤ S.s0) {Y : O} {n : Nat} (hY : fLenU [Y] = some (.d (.int (n : Int)))) (n0 : 0 < n) (n1 : n ≤ 100000) : ∃ (S' : Sx) (d : Nat), d < n ∧ 0 ≤ S'.s0 ∧
    ∀ z, fIx Y (.d (.int (d : Int))) = some (.d z) → d__law_pick [stO c S, Y] = .ok (.d z) [some (stO c S'), some Y] := by
  obtain ⟨S', r, s0', r0, r1, k⟩ := v_take c S h0 (lim := (n : Int)) (by omega) (by omega)
  obtain ⟨d, rfl⟩ := Int.eq_ofNat_of_zero_le r0
  refine ⟨S', d, by omega, s0', fun z hz => ?_⟩
  have k : d__law_take [stO c S, .d (.int (n : Int))] = .ok (.d (.int (d : Int))) [some (stO c S'), some (.d (.int (n : Int)))] := k
  unfold stO at *
  generalize (n : Int) = n' at *
  generalize (d : Int) = d' at *
  refine' R__law_pick (e := _) ?_ ?_
  rotate_left 1
  · unfold b__law_pick
    exact Eq.trans (by simp [hY, k, hz] <;> rfl) rfl
  · rfl
def big (x : Int) : Prop := -(10 ^ 60) < x ∧ x < 10 ^ 60
theorem p59_ : fPow (.d (.int 10)) (.d (.int 59)) = some (.d (.int (10 ^ 59))) := by rfl
theorem v_number (c : List Int) (S : Sx) (h0 : 0 ≤ S.s0) : ∃ (S' : Sx) (x : Int), 0 ≤ S'.s0 ∧ big x ∧ d__law_number [stO c S] = .ok (.d (.int x)) [some (stO c S')] := by
  obtain ⟨S1, r1, g1, a1, b1, k1⟩ := v_take c S h0 (lim := 9) (by omega) (by omega)
  obtain ⟨S2, r2, g2, a2, b2, k2⟩ := v_take c S1 g1 (lim := 2001) (by omega) (by omega)
  obtain ⟨S3, r3, g3, a3, b3, k3⟩ := v_take c S2 g2 (lim := 1000) (by omega) (by omega)
  have hz : ∃ z : List Int, z = [0, 1, -1, 2, r1 - 4, r2 - 1000, 10 ^ 59 + r3, -10 ^ 59 - 7] := ⟨_, rfl⟩
  obtain ⟨z, ez⟩ := hz
  have lz : z.length = 8 := by rw [ez]; rfl
  have hb : ∀ x ∈ z, big x := fun x hx => by
    rw [ez] at hx
    simp only [List.mem_cons, List.not_mem_nil, or_false] at hx
    unfold big
    rcases hx with rfl | rfl | rfl | rfl | rfl | rfl | rfl | rfl <;> omega
  obtain ⟨S4, d, hd, g4, k4⟩ := v_pick c S3 g3 (Y := ilO z) (n := 8) (by unfold ilO; rw [y14, List.length_map, lz]) (by omega) (by omega)
  have k4 := k4 _ (ix_ilO (ws := z) (i := d) (by omega))
  refine ⟨S4, gi z d, g4, hb _ (List.mem_of_getElem? (gi_at (by omega))), ?_⟩
  have e : ilO z = .lst [.d (.int 0), .d (.int 1), .d (.int (-1)), .d (.int 2), .d (.int (r1 - 4)), .d (.int (r2 - 1000)), .d (.int (10 ^ 59 + r3)), .d (.int (-10 ^ 59 - 7))] := by rw [ez]; rfl
  rw [e] at k4
  have hp := p59_
  have z8 : (8 : Nat) ≤ sizeLine := by decide
  have en : (-10 ^ 59 - 7 : Int) = -(10 ^ 59) - 7 := by decide
  rw [en] at k4
  clear hb lz ez e en
  unfold stO at *
  generalize (10 : Int) ^ 59 = P at *
  generalize gi z d = y at *
  refine' R__law_number (e := _) ?_ ?_
  rotate_left 1
  · unfold b__law_number
    exact Eq.trans (by simp [z_late, k1, k2, k3, k4, hp, z8] <;> rfl) rfl
  · rfl
end K01
namespace K01
open PySem L2 MX LA
def numB : D → Bool
  | .int x => decide (-1000000000000000000000000000000000000000000000000000000000000 < x) && decide (x < 1000000000000000000000000000000000000000000000000000000000000)
  | _ => false
theorem v_isnum {k : Nat} (x : D) (h : itbB k x = true) : d_is_number [.d x] = .ok (.d (.bl (numB x))) [some (.d x)] := by
  cases k with
  | zero => cases x <;> simp [itbB] at h
  | succ k =>
    cases x with
    | int i =>
      have i1 : on2 fIsi [.d (.int i), .d (.ty "int")] = some (.d (.bl true)) := rfl
      have i2 : on2 fIsi [.d (.int i), .d (.ty "bool")] = some (.d (.bl false)) := rfl
      unfold numB
      generalize hP : (1000000000000000000000000000000000000000000000000000000000000 : Int) = P
      refine' R_is_number (e := _) ?_ ?_
      rotate_left 1
      · unfold b_is_number
        rw [hP]
        by_cases c1 : -P < i
        · by_cases c2 : i < P <;> simp [i1, i2, c1, c2, dChain] <;> rfl
        · simp [i1, i2, c1, dChain] <;> rfl
      · rfl
    | bl b =>
      have i1 : on2 fIsi [.d (.bl b), .d (.ty "int")] = some (.d (.bl true)) := rfl
      have i2 : on2 fIsi [.d (.bl b), .d (.ty "bool")] = some (.d (.bl true)) := rfl
      refine' R_is_number (e := _) ?_ ?_
      rotate_left 1
      · unfold b_is_number
        simp [i1, i2, numB]
        rfl
      · rfl
    | non =>
      have i1 : on2 fIsi [.d .non, .d (.ty "int")] = some (.d (.bl false)) := rfl
      refine' R_is_number (e := _) ?_ ?_
      rotate_left 1
      · unfold b_is_number
        simp [i1, numB]
        rfl
      · rfl
    | str i =>
      have i1 : on2 fIsi [.d (.str i), .d (.ty "int")] = some (.d (.bl false)) := rfl
      refine' R_is_number (e := _) ?_ ?_
      rotate_left 1
      · unfold b_is_number
        simp [i1, numB]
        rfl
      · rfl
    | tup xs =>
      have i1 : on2 fIsi [.d (.tup xs), .d (.ty "int")] = some (.d (.bl false)) := rfl
      refine' R_is_number (e := _) ?_ ?_
      rotate_left 1
      · unfold b_is_number
        simp [i1, numB]
        rfl
      · rfl
    | _ => simp [itbB] at h
end K01
namespace K01
open PySem L2 MX LA
def wirB (n : Int) : D → Bool
  | .int x => numB (.int x) && (decide (0 ≤ x) && decide (x < n))
  | _ => false
theorem v_iswire {k : Nat} (x : D) (n : Int) (h : itbB k x = true) : d_is_wire [.d x, .d (.int n)] = .ok (.d (.bl (wirB n x))) [some (.d x), some (.d (.int n))] := by
  have kn := v_isnum x h
  cases x with
  | int i =>
    have ew : wirB n (.int i) = (numB (.int i) && (decide (0 ≤ i) && decide (i < n))) := rfl
    rw [ew]
    generalize numB (.int i) = b at *
    refine' R_is_wire (e := [.p (.d (.int i)), .p (.d (.int n))]) ?_ rfl
    unfold b_is_wire
    cases b with
    | false => simp [kn]
    | true =>
      by_cases c1 : 0 ≤ i
      · by_cases c2 : i < n <;> simp [kn, c1, c2, dChain]
      · simp [kn, c1, dChain]
  | bl b =>
    have e : numB (.bl b) = false := rfl
    rw [e] at kn
    refine' R_is_wire (e := _) ?_ ?_
    rotate_left 1
    · unfold b_is_wire
      simp [kn, wirB] <;> rfl
    · rfl
  | non =>
    have e : numB .non = false := rfl
    rw [e] at kn
    refine' R_is_wire (e := _) ?_ ?_
    rotate_left 1
    · unfold b_is_wire
      simp [kn, wirB] <;> rfl
    · rfl
  | str i =>
    have e : numB (.str i) = false := rfl
    rw [e] at kn
    refine' R_is_wire (e := _) ?_ ?_
    rotate_left 1
    · unfold b_is_wire
      simp [kn, wirB] <;> rfl
    · rfl
  | tup xs =>
    have e : numB (.tup xs) = false := rfl
    rw [e] at kn
    generalize hx : D.tup xs = X at *
    have e2 : wirB n X = false := by rw [← hx]; rfl
    rw [e2]
    refine' R_is_wire (e := _) ?_ ?_
    rotate_left 1
    · unfold b_is_wire
      simp [kn] <;> rfl
    · rfl
  | _ => cases k <;> simp [itbB] at h
end K01
namespace K01
open PySem L2 MX LA
mutual
def pvB : Nat → D → Bool
  | 0, _ => false
  | k + 1, .tup xs => decide (xs.length ≤ 1000) && pvsB k xs
  | _ + 1, .int x => numB (.int x)
  | _ + 1, .str s => PyData.strOk s
  | _ + 1, _ => false
def pvsB : Nat → List D → Bool
  | _, [] => true
  | k, x :: xs => pvB k x && pvsB k xs
end
theorem pvsB_all {k : Nat} : ∀ {xs : List D}, pvsB k xs = true ↔ ∀ x ∈ xs, pvB k x = true
  | [] => by simp [pvsB]
  | x :: xs => by simp [pvsB, pvsB_all (xs := xs)]
theorem pv_tup {k : Nat} {xs : List D} : pvB (k + 1) (.tup xs) = true ↔ xs.length ≤ 1000 ∧ ∀ x ∈ xs, pvB k x = true := by simp [pvB, pvsB_all]
theorem pv_it : ∀ (k : Nat) (x : D), pvB k x = true → itbB k x = true
  | 0, x, h => by cases x <;> simp [pvB] at h
  | k + 1, x, h => by
    cases x with
    | tup xs =>
      obtain ⟨h1, h2⟩ := pv_tup.mp h
      exact itb_tup.mpr ⟨h1, fun y hy => pv_it k y (h2 y hy)⟩
    | int i => simp [itbB]
    | str i => simp [itbB]
    | _ => simp [pvB] at h
theorem pv_ps : ∀ (k : Nat) (x : D), pvB k x = true → plsB k x = true
  | 0, x, h => by cases x <;> simp [pvB] at h
  | k + 1, x, h => by
    cases x with
    | tup xs =>
      obtain ⟨h1, h2⟩ := pv_tup.mp h
      exact ps_tup.mpr ⟨h1, fun y hy => pv_ps k y (h2 y hy)⟩
    | int i => simp [plsB]
    | str i => simpa [plsB, pvB] using h
    | _ => simp [pvB] at h
def isS (t : D) : D → Bool
  | .str s => match t with
    | .str u => decide (s = u)
    | _ => false
  | _ => false
theorem fEq_w {k : Nat} {x : D} {t : Str} (hk : k ≤ 60) (ht : PyData.strOk t = true) (h : pvB k x = true) : fEq (.d x) (.d (.str t)) = some (.d (.bl (isS (.str t) x))) := by
  obtain ⟨p, a1, a2, a3⟩ := py_pl k x (pv_ps k x h)
  have s1 : SeqAt.shaped p = true := by unfold SeqAt.shaped; rw [a2, decide_eq_true (by omega)]; rfl
  have s2 : SeqAt.shaped (.str t) = true := by
    unfold SeqAt.shaped
    have : (PyData.str t).depth ≤ 64 := by simp [PyData.depth]
    rw [decide_eq_true this]
    simp [PyData.canLay0, ht]
  have e2 : (O.d (.str t)).fz.py = some (.str t) := rfl
  cases k with
  | zero => cases x <;> simp [pvB] at h
  | succ k =>
    cases x with
    | str i => rfl
    | int i =>
      have e1 : (O.d (.int i)).fz.py = some p := a1
      show ((deq (.d (.int i)) (.d (.str t))).map fun c => O.d (.bl c)) = _
      have : deq (.d (.int i)) (.d (.str t)) = deqD (.d (.int i)) (.d (.str t)) := rfl
      rw [this]
      unfold deqD
      rw [e1, e2]
      simp only [s1, s2]
      have ep : p = .int i := Option.some.inj (a1.symm.trans rfl)
      subst ep
      rfl
    | tup xs =>
      have e1 : (O.d (.tup xs)).fz.py = some p := a1
      show ((deq (.d (.tup xs)) (.d (.str t))).map fun c => O.d (.bl c)) = _
      have : deq (.d (.tup xs)) (.d (.str t)) = deqD (.d (.tup xs)) (.d (.str t)) := rfl
      rw [this]
      unfold deqD
      rw [e1, e2]
      simp only [s1, s2]
      have a1 : (pys xs).map PyData.tuple = some p := a1
      cases hq : pys xs with
      | none => rw [hq] at a1; cases a1
      | some ps =>
        rw [hq] at a1
        have ep : PyData.tuple ps = p := Option.some.inj a1
        subst ep
        rfl
    | _ => simp [pvB] at h
theorem okA : PyData.strOk (Str.ofString "add") = true := by decide +kernel
theorem okT : PyData.strOk (Str.ofString "times") = true := by decide +kernel
theorem okS : PyData.strOk (Str.ofString "scale") = true := by decide +kernel
theorem fIn_str (i : Str) : fInU (.d (.str i)) (.d (.tup [sAdd, sTim])) = some (.d (.bl (isS sAdd (.str i) || isS sTim (.str i)))) := by
  show some (O.d (.bl (inV (.str i) [.str (Str.ofString "add"), .str (Str.ofString "times")]))) = _
  have e : inV (.str i) [.str (Str.ofString "add"), .str (Str.ofString "times")] = (isS sAdd (.str i) || isS sTim (.str i)) := by
    show ((Str.ofString "add" == i) || ((Str.ofString "times" == i) || false)) = (decide (i = Str.ofString "add") || decide (i = Str.ofString "times"))
    rw [Bool.or_false, BEq.comm, BEq.comm (a := Str.ofString "times")]; rfl
  rw [e]
theorem fInW_w {k : Nat} {x : D} (hk : k ≤ 60) (h : pvB k x = true) : fInW (.d x) (.d (.tup [sAdd, sTim])) = some (.d (.bl (isS sAdd x || isS sTim x))) := by
  obtain ⟨p, a1, a2, a3⟩ := py_pl k x (pv_ps k x h)
  have s1 : SeqAt.shaped p = true := by unfold SeqAt.shaped; rw [a2, decide_eq_true (by omega)]; rfl
  have s2 : SeqAt.shaped (.tuple [.str (Str.ofString "add"), .str (Str.ofString "times")]) = true := by
    unfold SeqAt.shaped
    have : (PyData.tuple [.str (Str.ofString "add"), .str (Str.ofString "times")]).depth ≤ 64 := by simp [PyData.depth, PyData.depthAll]
    rw [decide_eq_true this]
    simp [PyData.canLay0, PyData.canLayAll0, okA, okT]
  have e2 : (O.d (.tup [sAdd, sTim])).fz.py = some (.tuple [.str (Str.ofString "add"), .str (Str.ofString "times")]) := rfl
  cases k with
  | zero => cases x <;> simp [pvB] at h
  | succ k =>
    cases x with
    | str i =>
      unfold fInW
      rw [fIn_str]
    | int i => rfl
    | tup xs =>
      have e1 : (O.d (.tup xs)).fz.py = some p := a1
      have e0 : fInU (.d (.tup xs)) (.d (.tup [sAdd, sTim])) = none := rfl
      unfold fInW
      rw [e0]
      show ((dinP (.d (.tup xs)) (.d (.tup [sAdd, sTim]))).map fun c => O.d (.bl c.2)) = _
      unfold dinP
      rw [e1, e2]
      have a1 : (pys xs).map PyData.tuple = some p := a1
      cases hq : pys xs with
      | none => rw [hq] at a1; cases a1
      | some ps =>
        rw [hq] at a1
        have ep : PyData.tuple ps = p := Option.some.inj a1
        subst ep
        simp only [s1, s2]
        rfl
    | _ => simp [pvB] at h
def lineB (n : Int) : D → Bool
  | .tup [a, b, c] => (isS sAdd a || isS sTim a) && (wirB n b && wirB n c)
  | .tup [a, b, c, d] => isS sSca a && (numB b && (wirB n c && numB d))
  | _ => false
theorem nin34 (v : Int) : fNinW (.d (.int v)) (.d (.tup [.int 3, .int 4])) = some (.d (.bl (!(decide (v = 3) || decide (v = 4))))) := by
  have h := nin_tup v [3, 4]
  have h : fNinU (.d (.int v)) (.d (.tup [.int 3, .int 4])) = _ := h
  unfold fNinW
  rw [h]
  show some (O.d (.bl (!memI v [3, 4]))) = _
  congr 4
  unfold memI
  simp
end K01
namespace K01
open PySem L2 MX LA
theorem lineB_len {n : Int} {xs : List D} (h3 : xs.length ≠ 3) (h4 : xs.length ≠ 4) : lineB n (.tup xs) = false := by
  match xs, h3, h4 with
  | [], _, _ => rfl
  | [_], _, _ => rfl
  | [_, _], _, _ => rfl
  | [_, _, _], h, _ => exact absurd rfl h
  | [_, _, _, _], _, h => exact absurd rfl h
  | _ :: _ :: _ :: _ :: _ :: _, _, _ => rfl
theorem v_isline {k : Nat} (hk : k ≤ 60) (x : D) (n : Int) (h : pvB k x = true) : d_is_line [.d x, .d (.int n)] = .ok (.d (.bl (lineB n x))) [some (.d x), some (.d (.int n))] := by
  cases k with
  | zero => cases x <;> simp [pvB] at h
  | succ k =>
    cases x with
    | int i =>
      have i4 : on2 fIsi [.d (.int i), .d (.ty "tuple")] = some (.d (.bl false)) := rfl
      have e : lineB n (.int i) = false := rfl
      rw [e]
      refine' R_is_line (e := _) ?_ ?_
      rotate_left 1
      · unfold b_is_line
        simp [i4]
        rfl
      · rfl
    | str i =>
      have i4 : on2 fIsi [.d (.str i), .d (.ty "tuple")] = some (.d (.bl false)) := rfl
      have e : lineB n (.str i) = false := rfl
      rw [e]
      refine' R_is_line (e := _) ?_ ?_
      rotate_left 1
      · unfold b_is_line
        simp [i4]
        rfl
      · rfl
    | tup xs =>
      have i4 : on2 fIsi [.d (.tup xs), .d (.ty "tuple")] = some (.d (.bl true)) := rfl
      have hx := (pv_tup.mp h).2
      have lU : fLenU [.d (.tup xs)] = some (.d (.int (xs.length : Nat))) := y13
      have z2 : (2 : Nat) ≤ sizeLine := by decide
      have ni := nin34 (xs.length : Int)
      by_cases h3 : xs.length = 3
      · obtain ⟨a, b, c, rfl⟩ : ∃ a b c, xs = [a, b, c] := by
          match xs, h3 with
          | [a, b, c], _ => exact ⟨a, b, c, rfl⟩
        have ha := hx a (by simp)
        have hb := hx b (by simp)
        have hc := hx c (by simp)
        have f1 := fInW_w (by omega) ha
        have j0 : fIx (.d (.tup [a, b, c])) (.d (.int 0)) = some (.d a) := rfl
        have j1 : fIx (.d (.tup [a, b, c])) (.d (.int 1)) = some (.d b) := rfl
        have j2 : fIx (.d (.tup [a, b, c])) (.d (.int 2)) = some (.d c) := rfl
        have w1 := v_iswire b n (pv_it k b hb)
        have w2 := v_iswire c n (pv_it k c hc)
        have e : lineB n (.tup [a, b, c]) = ((isS sAdd a || isS sTim a) && (wirB n b && wirB n c)) := rfl
        rw [e]
        have lU : fLenU [.d (.tup [a, b, c])] = some (.d (.int 3)) := rfl
        have ni : fNinW (.d (.int 3)) (.d (.tup [.int 3, .int 4])) = some (.d (.bl false)) := nin34 3
        generalize D.tup [a, b, c] = X at *
        generalize (isS sAdd a || isS sTim a) = t0 at *
        generalize wirB n b = t1 at *
        generalize wirB n c = t2 at *
        unfold sAdd sTim at f1
        refine' R_is_line (e := _) ?_ ?_
        rotate_left 1
        · unfold b_is_line
          refine seqA (by simp [i4, lU, z2, ni] <;> rfl) ?_
          simp only [MX.z7]
          refine seqA (by simp [lU] <;> rfl) ?_
          simp only [MX.z7]
          cases t0 <;> cases t1 <;> cases t2 <;> simp [j0, j1, j2, f1, w1, w2, z2] <;> rfl
        · rfl
      · by_cases h4 : xs.length = 4
        · obtain ⟨a, b, c, d, rfl⟩ : ∃ a b c d, xs = [a, b, c, d] := by
            match xs, h4 with
            | [a, b, c, d], _ => exact ⟨a, b, c, d, rfl⟩
          have ha := hx a (by simp)
          have hb := hx b (by simp)
          have hc := hx c (by simp)
          have hd := hx d (by simp)
          have f1 := fEq_w (t := Str.ofString "scale") (by omega) okS ha
          have j0 : fIx (.d (.tup [a, b, c, d])) (.d (.int 0)) = some (.d a) := rfl
          have j1 : fIx (.d (.tup [a, b, c, d])) (.d (.int 1)) = some (.d b) := rfl
          have j2 : fIx (.d (.tup [a, b, c, d])) (.d (.int 2)) = some (.d c) := rfl
          have j3 : fIx (.d (.tup [a, b, c, d])) (.d (.int 3)) = some (.d d) := rfl
          have w1 := v_isnum b (pv_it k b hb)
          have w2 := v_iswire c n (pv_it k c hc)
          have w3 := v_isnum d (pv_it k d hd)
          have e : lineB n (.tup [a, b, c, d]) = (isS sSca a && (numB b && (wirB n c && numB d))) := rfl
          rw [e]
          have lU : fLenU [.d (.tup [a, b, c, d])] = some (.d (.int 4)) := rfl
          have ni : fNinW (.d (.int 4)) (.d (.tup [.int 3, .int 4])) = some (.d (.bl false)) := nin34 4
          have e0 : isS sSca a = isS (.str (Str.ofString "scale")) a := rfl
          rw [e0]
          generalize D.tup [a, b, c, d] = X at *
          generalize isS (.str (Str.ofString "scale")) a = t0 at *
          generalize numB b = t1 at *
          generalize wirB n c = t2 at *
          generalize numB d = t3 at *
          refine' R_is_line (e := _) ?_ ?_
          rotate_left 1
          · unfold b_is_line
            refine seqA (by simp [i4, lU, z2, ni] <;> rfl) ?_
            simp only [MX.z7]
            cases t0 <;> cases t1 <;> cases t2 <;> cases t3 <;> simp [lU, j0, j1, j2, j3, f1, w1, w2, w3, z2] <;> rfl
          · rfl
        · rw [lineB_len h3 h4]
          have e3 : decide ((xs.length : Int) = 3) = false := decide_eq_false (by omega)
          have e4 : decide ((xs.length : Int) = 4) = false := decide_eq_false (by omega)
          rw [e3, e4] at ni
          have ni : fNinW (.d (.int (xs.length : Int))) (.d (.tup [.int 3, .int 4])) = some (.d (.bl true)) := ni
          generalize (xs.length : Int) = m at *
          generalize D.tup xs = X at *
          refine' R_is_line (e := _) ?_ ?_
          rotate_left 1
          · unfold b_is_line
            simp [i4, lU, z2, ni, -MX.y13]
            rfl
          · rfl
    | _ => simp [pvB] at h
end K01
namespace K01
open PySem L2 MX LA
def isnB (hi : Int) : D → Bool
  | .int i => decide (0 ≤ i) && decide (i ≤ hi)
  | _ => false
theorem isn_wir {k : Nat} {n : Int} {x : D} (h : pvB k x = true) : isnB (n - 1) x = wirB n x := by
  cases x with
  | int i =>
    have hn : numB (.int i) = true := by cases k <;> simpa [pvB] using h
    show (decide (0 ≤ i) && decide (i ≤ n - 1)) = (numB (.int i) && (decide (0 ≤ i) && decide (i < n)))
    rw [hn, Bool.true_and]
    congr 1
    exact decide_eq_decide.mpr (by omega)
  | _ => rfl
theorem v_lisint {k : Nat} (x : D) (hi : Int) (h : pvB k x = true) : d__law_is_int [.d x, .d (.int 0), .d (.int hi)] = .ok (.d (.bl (isnB hi x))) [some (.d x), some (.d (.int 0)), some (.d (.int hi))] := by
  cases x with
  | int i =>
    have i1 : on2 fIsi [.d (.int i), .d (.ty "int")] = some (.d (.bl true)) := rfl
    have i2 : on2 fIsi [.d (.int i), .d (.ty "bool")] = some (.d (.bl false)) := rfl
    have e : isnB hi (.int i) = (decide (0 ≤ i) && decide (i ≤ hi)) := rfl
    rw [e]
    refine' R__law_is_int (e := [.p (.d (.int i)), .p (.d (.int 0)), .p (.d (.int hi))]) ?_ rfl
    unfold b__law_is_int
    by_cases c1 : 0 ≤ i
    · by_cases c2 : i ≤ hi <;> simp [i1, i2, c1, c2, dChain]
    · simp [i1, i2, c1, dChain]
  | str i =>
    have i1 : on2 fIsi [.d (.str i), .d (.ty "int")] = some (.d (.bl false)) := rfl
    have e : isnB hi (.str i) = false := rfl
    rw [e]
    refine' R__law_is_int (e := _) ?_ ?_
    rotate_left 1
    · unfold b__law_is_int
      simp [i1]
      rfl
    · rfl
  | tup xs =>
    have i1 : on2 fIsi [.d (.tup xs), .d (.ty "int")] = some (.d (.bl false)) := rfl
    have e : isnB hi (.tup xs) = false := rfl
    rw [e]
    generalize D.tup xs = X at *
    refine' R__law_is_int (e := _) ?_ ?_
    rotate_left 1
    · unfold b__law_is_int
      simp [i1]
      rfl
    · rfl
  | _ => cases k <;> simp [pvB] at h
theorem isi_int {k : Nat} {x : D} (h : pvB k x = true) : on2 fIsi [.d x, .d (.ty "int")] = some (.d (.bl (numB x))) := by
  cases x with
  | int i =>
    have hn : numB (.int i) = true := by cases k <;> simpa [pvB] using h
    rw [hn]; rfl
  | str i => rfl
  | tup xs => rfl
  | _ => cases k <;> simp [pvB] at h
def strB : D → Bool
  | .str _ => true
  | _ => false
theorem isi_str {k : Nat} {x : D} (h : pvB k x = true) : on2 fIsi [.d x, .d (.ty "str")] = some (.d (.bl (strB x))) := by
  cases x with
  | int i => rfl
  | str i => rfl
  | tup xs => rfl
  | _ => cases k <;> simp [pvB] at h
theorem fEq_nil {k : Nat} {xs : List D} (hk : k ≤ 60) (h : pvB k (.tup xs) = true) : fEq (.d (.tup xs)) (.d (.tup [])) = some (.d (.bl (decide (xs = [])))) := by
  obtain ⟨p, a1, a2, a3⟩ := py_pl k _ (pv_ps k _ h)
  have s1 : SeqAt.shaped p = true := by unfold SeqAt.shaped; rw [a2, decide_eq_true (by omega)]; rfl
  have s2 : SeqAt.shaped (.tuple []) = true := by decide +kernel
  have e2 : (O.d (.tup [])).fz.py = some (.tuple []) := rfl
  have e1 : (O.d (.tup xs)).fz.py = some p := a1
  show ((deq (.d (.tup xs)) (.d (.tup []))).map fun c => O.d (.bl c)) = _
  have : deq (.d (.tup xs)) (.d (.tup [])) = deqD (.d (.tup xs)) (.d (.tup [])) := rfl
  rw [this]
  unfold deqD
  rw [e1, e2]
  simp only [s1, s2]
  have a1 : (pys xs).map PyData.tuple = some p := a1
  cases xs with
  | nil =>
    have ep : PyData.tuple [] = p := Option.some.inj a1
    subst ep
    rfl
  | cons x xs =>
    cases hq : pys (x :: xs) with
    | none => rw [hq] at a1; cases a1
    | some ps =>
      rw [hq] at a1
      have ep : PyData.tuple ps = p := Option.some.inj a1
      subst ep
      obtain ⟨qs, b1, b4⟩ : ∃ qs, pys (x :: xs) = some qs ∧ qs.length = (x :: xs).length := by
        cases k with
        | zero => simp [pvB] at h
        | succ k =>
          obtain ⟨qs, b1, _, _, b4⟩ := pys_pl k (x :: xs) fun y hy => pv_ps k _ ((pv_tup.mp h).2 y hy)
          exact ⟨qs, b1, b4⟩
      rw [hq] at b1
      have : ps = qs := Option.some.inj b1
      subst this
      cases ps with
      | nil => simp at b4
      | cons a as => rfl
theorem isS_ne {a : D} (h : isS sSca a = true) : (isS sAdd a || isS sTim a) = false := by
  cases a with
  | str s =>
    have h : decide (s = Str.ofString "scale") = true := h
    have h := of_decide_eq_true h
    subst h
    rfl
  | _ => cases h
theorem isS_str {a t : D} (h : strB a = false) : isS t a = false := by
  cases a with
  | str s => cases h
  | _ => rfl
theorem v_lisline {k : Nat} (hk : k ≤ 60) (x : D) (n : Int) (h : pvB k x = true) : d__law_is_line [.d x, .d (.int n)] = .ok (.d (.bl (lineB n x))) [some (.d x), some (.d (.int n))] := by
  cases k with
  | zero => cases x <;> simp [pvB] at h
  | succ k =>
    cases x with
    | int i =>
      have i4 : on2 fIsi [.d (.int i), .d (.ty "tuple")] = some (.d (.bl false)) := rfl
      have e : lineB n (.int i) = false := rfl
      rw [e]
      refine' R__law_is_line (e := _) ?_ ?_
      rotate_left 1
      · unfold b__law_is_line
        simp [i4]
        rfl
      · rfl
    | str i =>
      have i4 : on2 fIsi [.d (.str i), .d (.ty "tuple")] = some (.d (.bl false)) := rfl
      have e : lineB n (.str i) = false := rfl
      rw [e]
      refine' R__law_is_line (e := _) ?_ ?_
      rotate_left 1
      · unfold b__law_is_line
        simp [i4]
        rfl
      · rfl
    | tup xs =>
      have i4 : on2 fIsi [.d (.tup xs), .d (.ty "tuple")] = some (.d (.bl true)) := rfl
      have hx := (pv_tup.mp h).2
      have z0 : (0 : Nat) ≤ sizeLine := by decide
      have z2 : (2 : Nat) ≤ sizeLine := by decide
      have en := fEq_nil (by omega) h
      cases xs with
      | nil =>
        have e : lineB n (.tup []) = false := rfl
        rw [e]
        have en : fEq (.d (.tup [])) (.d (.tup [])) = some (.d (.bl true)) := en
        refine' R__law_is_line (e := _) ?_ ?_
        rotate_left 1
        · unfold b__law_is_line
          simp [i4, z0, en]
          rfl
        · rfl
      | cons a as =>
        have en : fEq (.d (.tup (a :: as))) (.d (.tup [])) = some (.d (.bl false)) := en
        have ha := hx a (by simp)
        have j0 : fIx (.d (.tup (a :: as))) (.d (.int 0)) = some (.d a) := ix_tp (xs := a :: as) (k := 0) rfl
        have is := isi_str ha
        cases hs : strB a with
        | false =>
          rw [hs] at is
          have e : lineB n (.tup (a :: as)) = false := by
            match as with
            | [] => rfl
            | [_] => rfl
            | [b, c] =>
              show ((isS sAdd a || isS sTim a) && _) = false
              rw [isS_str hs, isS_str hs]; rfl
            | [b, c, d] =>
              show (isS sSca a && _) = false
              rw [isS_str hs]; rfl
            | _ :: _ :: _ :: _ :: _ => rfl
          rw [e]
          generalize D.tup (a :: as) = X at *
          refine' R__law_is_line (e := _) ?_ ?_
          rotate_left 1
          · unfold b__law_is_line
            simp [i4, z0, en, j0, is]
            rfl
          · rfl
        | true =>
          rw [hs] at is
          have f1 := fEq_w (t := Str.ofString "scale") (by omega) okS ha
          have f2 : fInU (.d a) (.d (.tup [.str (Str.ofString "add"), .str (Str.ofString "times")])) = some (.d (.bl (isS sAdd a || isS sTim a))) := by
            cases a with
            | str s => exact fIn_str s
            | _ => cases hs
          have lU : fLenU [.d (.tup (a :: as))] = some (.d (.int ((a :: as).length : Nat))) := y13
          have e0 : isS sSca a = isS (.str (Str.ofString "scale")) a := rfl
          cases hc : isS (.str (Str.ofString "scale")) a with
          | true =>
            rw [hc] at f1
            by_cases h4 : (a :: as).length = 4
            · obtain ⟨b, c, d, rfl⟩ : ∃ b c d, as = [b, c, d] := by
                match as, h4 with
                | [b, c, d], _ => exact ⟨b, c, d, rfl⟩
              have hb := hx b (by simp)
              have hcc := hx c (by simp)
              have hd := hx d (by simp)
              have j1 : fIx (.d (.tup [a, b, c, d])) (.d (.int 1)) = some (.d b) := rfl
              have j2 : fIx (.d (.tup [a, b, c, d])) (.d (.int 2)) = some (.d c) := rfl
              have j3 : fIx (.d (.tup [a, b, c, d])) (.d (.int 3)) = some (.d d) := rfl
              have w1 := isi_int hb
              have w2 := v_lisint c (n - 1) hcc
              have w3 := isi_int hd
              rw [isn_wir hcc] at w2
              have e : lineB n (.tup [a, b, c, d]) = (isS sSca a && (numB b && (wirB n c && numB d))) := rfl
              rw [e, e0, hc, Bool.true_and]
              have lU : fLenU [.d (.tup [a, b, c, d])] = some (.d (.int 4)) := rfl
              generalize D.tup [a, b, c, d] = X at *
              generalize numB b = t1 at *
              generalize wirB n c = t2 at *
              generalize numB d = t3 at *
              refine' R__law_is_line (e := _) ?_ ?_
              rotate_left 1
              · unfold b__law_is_line
                refine seqA (by simp [i4, z0, en, j0, is] <;> rfl) ?_
                simp only [MX.z7]
                cases t1 <;> cases t2 <;> cases t3 <;> simp [lU, j0, j1, j2, j3, f1, w1, w2, w3] <;> rfl
              · rfl
            · have e : lineB n (.tup (a :: as)) = false := by
                match as, h4 with
                | [], _ => rfl
                | [_], _ => rfl
                | [b, c], _ =>
                  show ((isS sAdd a || isS sTim a) && _) = false
                  rw [isS_ne (e0.trans hc)]; rfl
                | [b, c, d], h4 => exact absurd rfl h4
                | _ :: _ :: _ :: _ :: _, _ => rfl
              rw [e]
              have e4 : ¬ (((a :: as).length : Nat) : Int) = 4 := by omega
              generalize (((a :: as).length : Nat) : Int) = m at *
              generalize D.tup (a :: as) = X at *
              refine' R__law_is_line (e := _) ?_ ?_
              rotate_left 1
              · unfold b__law_is_line
                refine seqA (by simp [i4, z0, en, j0, is] <;> rfl) ?_
                simp only [MX.z7]
                simp [lU, j0, f1, e4, -MX.y13]
                rfl
              · rfl
          | false =>
            rw [hc] at f1
            by_cases h3 : (a :: as).length = 3
            · obtain ⟨b, c, rfl⟩ : ∃ b c, as = [b, c] := by
                match as, h3 with
                | [b, c], _ => exact ⟨b, c, rfl⟩
              have hb := hx b (by simp)
              have hcc := hx c (by simp)
              have j1 : fIx (.d (.tup [a, b, c])) (.d (.int 1)) = some (.d b) := rfl
              have j2 : fIx (.d (.tup [a, b, c])) (.d (.int 2)) = some (.d c) := rfl
              have w1 := v_lisint b (n - 1) hb
              have w2 := v_lisint c (n - 1) hcc
              rw [isn_wir hb] at w1
              rw [isn_wir hcc] at w2
              have e : lineB n (.tup [a, b, c]) = ((isS sAdd a || isS sTim a) && (wirB n b && wirB n c)) := rfl
              rw [e]
              have lU : fLenU [.d (.tup [a, b, c])] = some (.d (.int 3)) := rfl
              generalize D.tup [a, b, c] = X at *
              generalize (isS sAdd a || isS sTim a) = t0 at *
              generalize wirB n b = t1 at *
              generalize wirB n c = t2 at *
              refine' R__law_is_line (e := _) ?_ ?_
              rotate_left 1
              · unfold b__law_is_line
                refine seqA (by simp [i4, z0, en, j0, is] <;> rfl) ?_
                simp only [MX.z7]
                refine seqA (by simp [j0, f1] <;> rfl) ?_
                simp only [MX.z7]
                cases t0 <;> cases t1 <;> cases t2 <;> simp [lU, j0, j1, j2, z2, f2, w1, w2] <;> rfl
              · rfl
            · have e : lineB n (.tup (a :: as)) = false := by
                match as, h3 with
                | [], _ => rfl
                | [_], _ => rfl
                | [b, c], h3 => exact absurd rfl h3
                | [b, c, d], _ =>
                  show (isS sSca a && _) = false
                  rw [e0, hc]; rfl
                | _ :: _ :: _ :: _ :: _, _ => rfl
              rw [e]
              have e4 : ¬ (((a :: as).length : Nat) : Int) = 3 := by omega
              generalize (((a :: as).length : Nat) : Int) = m at *
              generalize D.tup (a :: as) = X at *
              generalize (isS sAdd a || isS sTim a) = t0 at *
              refine' R__law_is_line (e := _) ?_ ?_
              rotate_left 1
              · unfold b__law_is_line
                refine seqA (by simp [i4, z0, en, j0, is] <;> rfl) ?_
                simp only [MX.z7]
                refine seqA (by simp [j0, f1] <;> rfl) ?_
                simp only [MX.z7]
                cases t0 <;> simp [lU, j0, z2, f2, e4, -MX.y13] <;> rfl
              · rfl
    | _ => simp [pvB] at h
end K01
namespace K01
open PySem L2 MX LA
def nvD : D → Int
  | .int i => i
  | _ => 0
def linesB (n : Int) : Nat → List D → Bool
  | _, [] => true
  | k, x :: xs => lineB (n + (k : Int)) x && linesB n (k + 1) xs
def lsD : D → List D
  | .tup xs => xs
  | _ => []
def tupB : D → Bool
  | .tup _ => true
  | _ => false
def shB3 (n L U : D) : Bool := isnB 16 n && (tupB L && (decide ((lsD L).length ≤ 60) && (tupB U && (decide ((lsD U).length ≤ 8) && (linesB (nvD n) 0 (lsD L) && (lsD U).all (wirB (nvD n + ((lsD L).length : Nat))))))))
def shB : D → Bool
  | .tup [n, L, U] => shB3 n L U
  | _ => false
theorem shB_len {xs : List D} (h : xs.length ≠ 3) : shB (.tup xs) = false := by
  match xs, h with
  | [], _ => rfl
  | [_], _ => rfl
  | [_, _], _ => rfl
  | [_, _, _], h => exact absurd rfl h
  | _ :: _ :: _ :: _ :: _, _ => rfl
theorem isi_tup {k : Nat} {x : D} (h : pvB k x = true) : on2 fIsi [.d x, .d (.ty "tuple")] = some (.d (.bl (tupB x))) := by
  cases x with
  | int i => rfl
  | str i => rfl
  | tup xs => rfl
  | _ => cases k <;> simp [pvB] at h
def enD : Nat → List D → List (Nat × D)
  | _, [] => []
  | k, x :: xs => (k, x) :: enD (k + 1) xs
theorem enD_enum : ∀ (k : Nat) (xs : List D), enumL k xs = (enD k xs).map fun p => .tup [di p.1, p.2]
  | _, [] => rfl
  | k, x :: xs => by
    show D.tup [.int (k : Int), x] :: enumL (k + 1) xs = _
    rw [enD_enum (k + 1) xs]; rfl
theorem enD_len : ∀ (k : Nat) (xs : List D), (enD k xs).length = xs.length
  | _, [] => rfl
  | k, x :: xs => by
    show (enD (k + 1) xs).length + 1 = _
    rw [enD_len (k + 1) xs]; rfl
theorem enD_mem : ∀ (k : Nat) (xs : List D), ∀ p ∈ enD k xs, p.2 ∈ xs
  | _, [], p, h => by cases h
  | k, x :: xs, p, h => by
    rcases List.mem_cons.mp h with rfl | h
    · exact List.mem_cons_self
    · exact List.mem_cons_of_mem _ (enD_mem (k + 1) xs p h)
theorem enD_all (n : Int) : ∀ (k : Nat) (xs : List D), (enD k xs).all (fun p => lineB (n + (p.1 : Int)) p.2) = linesB n k xs
  | _, [] => rfl
  | k, x :: xs => by
    show (lineB (n + (k : Int)) x && (enD (k + 1) xs).all (fun p => lineB (n + (p.1 : Int)) p.2)) = _
    rw [enD_all n (k + 1) xs]; rfl
theorem sheet_end {k : Nat} (hk : k ≤ 60) (S : D) (n : Int) (ls us : List D) (hl : ls.length ≤ 1000) (hu : us.length ≤ 1000) (pl : ∀ x ∈ ls, pvB k x = true) (pu : ∀ x ∈ us, pvB k x = true) :
    ∃ e2, (sSeq (sIf (dNotT (dTst (dCall (on1 fAll) (vCons (vT (dLc (iAr (aCons (dVar 2) aNil) gEnum) [5, 6] (tTupl (tgCons (tName 5) (tgCons (tName 6) tgNil))) dYes e1_is_sheet)) vNil)))) (sRet (dC (.bl false))) sNext)
      (sRet (dCall (on1 fAll) (vCons (vT (dLc (iAny (dVar 3)) [4] (tName 4) dYes e2_is_sheet)) vNil)))) [.p (.d S), .v (.d (.int n)), .v (.d (.tup ls)), .v (.d (.tup us)), .no, .no, .no] = .rt (.d (.bl (linesB n 0 ls && us.all (wirB (n + (ls.length : Nat)))))) e2 ∧ outE 1 e2 = [some (.d S)] := by
  refine ⟨[.p (.d S), .v (.d (.int n)), .v (.d (.tup ls)), .v (.d (.tup us)), .no, .no, .no], ?_, rfl⟩
  have ge : gEnum [.tup ls] = some ((enD 0 ls).map fun p => .tup [di p.1, p.2]) := by rw [← enD_enum]; rfl
  have lc1 := lc_m (vs := [5, 6]) (t := tTupl (tgCons (tName 5) (tgCons (tName 6) tgNil))) (el := e1_is_sheet) (f := fun p : Nat × D => .tup [di p.1, p.2]) (g := fun p => O.d (.bl (lineB (n + (p.1 : Int)) p.2))) (e := [.p (.d S), .v (.d (.int n)), .v (.d (.tup ls)), .v (.d (.tup us)), .no, .no, .no]) (enD 0 ls) (by rw [enD_len]; omega) fun p hp => by
    have k1 := v_isline hk p.2 (n + (p.1 : Int)) (pl _ (enD_mem _ _ _ hp))
    obtain ⟨a, y⟩ := p
    dsimp only at k1 ⊢
    unfold di
    generalize lineB (n + (a : Int)) y = b at *
    generalize (a : Int) = a' at *
    generalize hz : n + a' = z at *
    exact ⟨[.p (.d S), .v (.d (.int n)), .v (.d (.tup ls)), .v (.d (.tup us)), .no, .v (.d (.int a')), .v (.d y)], by simp, by simp [hz, k1], rfl⟩
  have lc2 := lc_m (vs := [4]) (t := tName 4) (el := e2_is_sheet) (f := fun y : D => y) (g := fun y => O.d (.bl (wirB (n + (ls.length : Nat)) y))) (e := [.p (.d S), .v (.d (.int n)), .v (.d (.tup ls)), .v (.d (.tup us)), .no, .no, .no]) us (by omega) fun y hy => by
    have k1 := v_iswire y (n + ((ls.length : Nat) : Int)) (pv_it k y (pu y hy))
    have lU : fLenU [.d (.tup ls)] = some (.d (.int (ls.length : Nat))) := y13
    generalize wirB (n + (ls.length : Nat)) y = b at *
    generalize ((ls.length : Nat) : Int) = a' at *
    generalize hz : n + a' = z at *
    generalize D.tup ls = TL at *
    generalize D.tup us = TU at *
    exact ⟨[.p (.d S), .v (.d (.int n)), .v (.d TL), .v (.d TU), .v (.d y), .no, .no], by simp, by simp [lU, hz, k1], rfl⟩
  rw [List.map_id'] at lc2
  have al1 := all_m (l := enD 0 ls) (f := fun p => lineB (n + (p.1 : Int)) p.2)
  have al2 := all_m (l := us) (f := wirB (n + (ls.length : Nat)))
  rw [enD_all] at al1
  generalize linesB n 0 ls = b1 at *
  generalize us.all (wirB (n + (ls.length : Nat))) = b2 at *
  generalize (enD 0 ls).map (fun p => O.d (.bl (lineB (n + (p.1 : Int)) p.2))) = A1 at *
  generalize us.map (fun y => O.d (.bl (wirB (n + (ls.length : Nat)) y))) = A2 at *
  generalize (enD 0 ls).map (fun p => D.tup [di p.1, p.2]) = IX at *
  cases b1 with
  | false => simp [ge, lc1, al1]
  | true => simp [ge, lc1, al1, lc2, al2]
end K01
namespace K01
open PySem L2 MX LA
theorem num_int {k : Nat} {x : D} (hp : pvB k x = true) (h : numB x = true) : ∃ i, x = .int i := by
  cases x with
  | int i => exact ⟨i, rfl⟩
  | _ => simp [numB] at h
theorem v_issheet {k : Nat} (hk : k ≤ 58) (x : D) (h : pvB k x = true) : d_is_sheet [.d x] = .ok (.d (.bl (shB x))) [some (.d x)] := by
  cases k with
  | zero => cases x <;> simp [pvB] at h
  | succ k =>
    cases x with
    | int i =>
      have i4 : on2 fIsi [.d (.int i), .d (.ty "tuple")] = some (.d (.bl false)) := rfl
      have e : shB (.int i) = false := rfl
      rw [e]
      refine' R_is_sheet (e := _) ?_ ?_
      rotate_left 1
      · unfold b_is_sheet
        simp [i4]
        rfl
      · rfl
    | str i =>
      have i4 : on2 fIsi [.d (.str i), .d (.ty "tuple")] = some (.d (.bl false)) := rfl
      have e : shB (.str i) = false := rfl
      rw [e]
      refine' R_is_sheet (e := _) ?_ ?_
      rotate_left 1
      · unfold b_is_sheet
        simp [i4]
        rfl
      · rfl
    | tup xs =>
      have i4 : on2 fIsi [.d (.tup xs), .d (.ty "tuple")] = some (.d (.bl true)) := rfl
      have hx := (pv_tup.mp h).2
      by_cases h3 : xs.length = 3
      · obtain ⟨n, L, U, rfl⟩ : ∃ a b c, xs = [a, b, c] := by
          match xs, h3 with
          | [a, b, c], _ => exact ⟨a, b, c, rfl⟩
        have hn := hx n (by simp)
        have hL := hx L (by simp)
        have hU := hx U (by simp)
        have lU : fLenU [.d (.tup [n, L, U])] = some (.d (.int 3)) := rfl
        have kn := v_isnum n (pv_it k n hn)
        have e : shB (.tup [n, L, U]) = shB3 n L U := rfl
        rw [e]
        unfold shB3
        cases cn : numB n with
        | false =>
          rw [cn] at kn
          have e1 : isnB 16 n = false := by
            cases n with
            | int i =>
              have : numB (.int i) = true := by cases k <;> simpa [pvB] using hn
              rw [cn] at this; cases this
            | _ => rfl
          rw [e1, Bool.false_and]
          refine' R_is_sheet (e := _) ?_ ?_
          rotate_left 1
          · unfold b_is_sheet
            refine seqA (by simp [i4, lU] <;> rfl) ?_
            simp only [MX.z7]
            refine seqA (by simp <;> rfl) ?_
            simp only [MX.z7]
            simp [kn]
            rfl
          · rfl
        | true =>
          rw [cn] at kn
          obtain ⟨i, rfl⟩ := num_int hn cn
          have e1 : isnB 16 (.int i) = (decide (0 ≤ i) && decide (i ≤ 16)) := rfl
          rw [e1]
          by_cases c : 0 ≤ i ∧ i ≤ 16
          · rw [decide_eq_true c.1, decide_eq_true c.2, Bool.true_and, Bool.true_and]
            have c1 := c.1
            have c2 := c.2
            have iL := isi_tup hL
            have iU := isi_tup hU
            cases tL : tupB L with
            | false =>
              rw [tL] at iL
              rw [Bool.false_and]
              refine' R_is_sheet (e := _) ?_ ?_
              rotate_left 1
              · unfold b_is_sheet
                refine seqA (by simp [i4, lU] <;> rfl) ?_
                simp only [MX.z7]
                refine seqA (by simp <;> rfl) ?_
                simp only [MX.z7]
                refine seqA (by simp [kn, c1, c2, dChain] <;> rfl) ?_
                simp only [MX.z7]
                simp [iL]
                rfl
              · rfl
            | true =>
              rw [tL] at iL
              obtain ⟨ls, rfl⟩ : ∃ ls, L = .tup ls := by
                cases L with
                | tup ls => exact ⟨ls, rfl⟩
                | _ => cases tL
              have e2 : lsD (.tup ls) = ls := rfl
              rw [e2, Bool.true_and]
              have lL : fLenU [.d (.tup ls)] = some (.d (.int (ls.length : Nat))) := y13
              by_cases c6 : ls.length ≤ 60
              · rw [decide_eq_true c6, Bool.true_and]
                have c6' : ¬ (60 : Int) < ((ls.length : Nat) : Int) := by omega
                cases tU : tupB U with
                | false =>
                  rw [tU] at iU
                  rw [Bool.false_and]
                  generalize ((ls.length : Nat) : Int) = m at *
                  generalize D.tup ls = TL at *
                  refine' R_is_sheet (e := _) ?_ ?_
                  rotate_left 1
                  · unfold b_is_sheet
                    refine seqA (by simp [i4, lU] <;> rfl) ?_
                    simp only [MX.z7]
                    refine seqA (by simp <;> rfl) ?_
                    simp only [MX.z7]
                    refine seqA (by simp [kn, c1, c2, dChain] <;> rfl) ?_
                    simp only [MX.z7]
                    simp [iL, lL, c6', iU, -MX.y13]
                    rfl
                  · rfl
                | true =>
                  rw [tU] at iU
                  obtain ⟨us, rfl⟩ : ∃ us, U = .tup us := by
                    cases U with
                    | tup us => exact ⟨us, rfl⟩
                    | _ => cases tU
                  have e3 : lsD (.tup us) = us := rfl
                  rw [e3, Bool.true_and]
                  have lUU : fLenU [.d (.tup us)] = some (.d (.int (us.length : Nat))) := y13
                  cases k with
                  | zero => simp [pvB] at hL
                  | succ k =>
                    have pL := pv_tup.mp hL
                    have pU := pv_tup.mp hU
                    by_cases c8 : us.length ≤ 8
                    · rw [decide_eq_true c8, Bool.true_and]
                      have c8' : ¬ (8 : Int) < ((us.length : Nat) : Int) := by omega
                      have e4 : nvD (.int i) = i := rfl
                      rw [e4]
                      obtain ⟨ee, en, oe⟩ := sheet_end (k := k) (by omega) (.tup [.int i, .tup ls, .tup us]) i ls us pL.1 pU.1 pL.2 pU.2
                      generalize (linesB i 0 ls && us.all (wirB (i + (ls.length : Nat)))) = b at *
                      generalize ((ls.length : Nat) : Int) = m at *
                      generalize ((us.length : Nat) : Int) = m2 at *
                      refine' R_is_sheet (e := ee) ?_ oe
                      unfold b_is_sheet
                      refine seqA (by simp [i4, lU] <;> rfl) ?_
                      simp only [MX.z7]
                      refine seqA (by simp <;> rfl) ?_
                      simp only [MX.z7]
                      refine seqA (by simp [kn, c1, c2, dChain] <;> rfl) ?_
                      simp only [MX.z7]
                      refine seqA (by simp [iL, lL, c6', iU, lUU, c8', -MX.y13] <;> rfl) ?_
                      simp only [MX.z7]
                      exact en
                    · rw [decide_eq_false c8, Bool.false_and]
                      have c8' : (8 : Int) < ((us.length : Nat) : Int) := by omega
                      generalize ((ls.length : Nat) : Int) = m at *
                      generalize ((us.length : Nat) : Int) = m2 at *
                      generalize D.tup ls = TL at *
                      generalize D.tup us = TU at *
                      refine' R_is_sheet (e := _) ?_ ?_
                      rotate_left 1
                      · unfold b_is_sheet
                        refine seqA (by simp [i4, lU] <;> rfl) ?_
                        simp only [MX.z7]
                        refine seqA (by simp <;> rfl) ?_
                        simp only [MX.z7]
                        refine seqA (by simp [kn, c1, c2, dChain] <;> rfl) ?_
                        simp only [MX.z7]
                        simp [iL, lL, c6', iU, lUU, c8', -MX.y13]
                        rfl
                      · rfl
              · rw [decide_eq_false c6, Bool.false_and]
                have c6' : (60 : Int) < ((ls.length : Nat) : Int) := by omega
                generalize ((ls.length : Nat) : Int) = m at *
                generalize D.tup ls = TL at *
                refine' R_is_sheet (e := _) ?_ ?_
                rotate_left 1
                · unfold b_is_sheet
                  refine seqA (by simp [i4, lU] <;> rfl) ?_
                  simp only [MX.z7]
                  refine seqA (by simp <;> rfl) ?_
                  simp only [MX.z7]
                  refine seqA (by simp [kn, c1, c2, dChain] <;> rfl) ?_
                  simp only [MX.z7]
                  simp [iL, lL, c6', -MX.y13]
                  rfl
                · rfl
          · have e2 : (decide (0 ≤ i) && decide (i ≤ 16)) = false := by
              by_cases c1 : 0 ≤ i
              · rw [decide_eq_false (show ¬ i ≤ 16 from fun h => c ⟨c1, h⟩), Bool.and_false]
              · rw [decide_eq_false c1, Bool.false_and]
            rw [e2, Bool.false_and]
            have dc : dChain fLe fLe (vT (dC (.int 0))) (vS 1) (vT (dC (.int 16))) [.p (.d (.tup [.int i, L, U])), .v (.d (.int i)), .v (.d L), .v (.d U), .no, .no, .no] = .ok (.d (.bl false)) [.p (.d (.tup [.int i, L, U])), .v (.d (.int i)), .v (.d L), .v (.d U), .no, .no, .no] := by
              by_cases c1 : 0 ≤ i
              · have c2 : ¬ i ≤ 16 := fun h => c ⟨c1, h⟩
                simp [dChain, c1, c2]
              · simp [dChain, c1]
            refine' R_is_sheet (e := _) ?_ ?_
            rotate_left 1
            · unfold b_is_sheet
              refine seqA (by simp [i4, lU] <;> rfl) ?_
              simp only [MX.z7]
              refine seqA (by simp <;> rfl) ?_
              simp only [MX.z7]
              simp [kn, dc]
              rfl
            · rfl
      · rw [shB_len h3]
        have lU : fLenU [.d (.tup xs)] = some (.d (.int (xs.length : Nat))) := y13
        have e3 : ¬ ((xs.length : Nat) : Int) = 3 := by omega
        generalize ((xs.length : Nat) : Int) = m at *
        generalize D.tup xs = X at *
        refine' R_is_sheet (e := _) ?_ ?_
        rotate_left 1
        · unfold b_is_sheet
          simp [i4, lU, e3, -MX.y13]
          rfl
        · rfl
    | _ => simp [pvB] at h
end K01
namespace K01
open PySem L2 MX LA
theorem ls_loop {k0 : Nat} (hk : k0 ≤ 60) (S U : D) (i : Int) (ls : List D) (hS : S = .tup [.int i, .tup ls, U]) (pl : ∀ x ∈ ls, pvB k0 x = true) (s2 : Sl) : ∀ (m k : Nat) (s1 : Sl), k + m = ls.length → s1.pinned = false →
    (linesB i k (ls.drop k) = true → ∃ t1 : Sl, sForL (tName 1) l1__law_is_sheet (idx k m) [.p (.d S), s1, s2] = .nx [.p (.d S), t1, s2]) ∧
    (linesB i k (ls.drop k) = false → ∃ t1 : Sl, sForL (tName 1) l1__law_is_sheet (idx k m) [.p (.d S), s1, s2] = .rt (.d (.bl false)) [.p (.d S), t1, s2])
  | 0, k, s1, e, _ => by
    have e0 : ls.drop k = [] := List.drop_eq_nil_of_le (by omega)
    rw [e0]
    exact ⟨fun _ => ⟨s1, by rw [idx_0]; exact u1⟩, fun h => by cases h⟩
  | m + 1, k, s1, e, h1 => by
    have hlt : k < ls.length := by omega
    have ih := ls_loop hk S U i ls hS pl s2 m (k + 1) (.v (.d (.int (k : Int)))) (by omega) rfl
    have ed : ls.drop k = ls[k] :: ls.drop (k + 1) := List.drop_eq_getElem_cons hlt
    have el : linesB i k (ls.drop k) = (lineB (i + (k : Int)) ls[k] && linesB i (k + 1) (ls.drop (k + 1))) := by rw [ed]; rfl
    have kl := v_lisline hk ls[k] (i + (k : Int)) (pl _ (List.getElem_mem hlt))
    have i1 : fIx (.d S) (.d (.int 1)) = some (.d (.tup ls)) := by rw [hS]; rfl
    have i0 : fIx (.d S) (.d (.int 0)) = some (.d (.int i)) := by rw [hS]; rfl
    have ik : fIx (.d (.tup ls)) (.d (.int (k : Int))) = some (.d ls[k]) := ix_tp (List.getElem?_eq_getElem hlt)
    rw [el]
    have tu : l1__law_is_sheet [.p (.d S), .v (.d (.int (k : Int))), s2] = if lineB (i + (k : Int)) ls[k] = true then .nx [.p (.d S), .v (.d (.int (k : Int))), s2] else .rt (.d (.bl false)) [.p (.d S), .v (.d (.int (k : Int))), s2] := by
      clear ih el ed
      generalize lineB (i + (k : Int)) ls[k] = b at *
      generalize ls[k] = x at *
      generalize D.tup ls = TL at *
      generalize (k : Int) = k' at *
      generalize hz : i + k' = z at *
      cases b <;> simp [i0, i1, ik, hz, kl]
    cases hb : lineB (i + (k : Int)) ls[k] with
    | true =>
      rw [hb, if_pos rfl] at tu
      rw [Bool.true_and, idx_s]
      have st : sForL (tName 1) l1__law_is_sheet (D.int (k : Int) :: idx (k + 1) m) [.p (.d S), s1, s2] = sForL (tName 1) l1__law_is_sheet (idx (k + 1) m) [.p (.d S), .v (.d (.int (k : Int))), s2] := for_nx (e1 := [.p (.d S), .v (.d (.int (k : Int))), s2]) (by simp [h1]) tu
      rw [st]
      exact ih
    | false =>
      rw [hb, if_neg (by decide)] at tu
      rw [Bool.false_and, idx_s]
      exact ⟨fun h => (by cases h), fun _ => ⟨_, for_rt (e1 := [.p (.d S), .v (.d (.int (k : Int))), s2]) (by simp [h1]) tu⟩⟩
theorem flt_all (w : D → Bool) : ∀ us : List D, decide ((((us.filter fun y => !w y).length : Nat) : Int) = 0) = us.all w
  | [] => rfl
  | u :: us => by
    rw [List.filter_cons, List.all_cons]
    cases h : w u with
    | true =>
      rw [if_neg (by decide), Bool.true_and]
      exact flt_all w us
    | false =>
      rw [if_pos (by decide), Bool.false_and, List.length_cons]
      exact decide_eq_false (by omega)
theorem v_lissheet {k : Nat} (hk : k ≤ 58) (x : D) (h : pvB k x = true) : d__law_is_sheet [.d x] = .ok (.d (.bl (shB x))) [some (.d x)] := by
  cases k with
  | zero => cases x <;> simp [pvB] at h
  | succ k =>
    cases x with
    | int i =>
      have i4 : on2 fIsi [.d (.int i), .d (.ty "tuple")] = some (.d (.bl false)) := rfl
      have e : shB (.int i) = false := rfl
      rw [e]
      refine' R__law_is_sheet (e := _) ?_ ?_
      rotate_left 1
      · unfold b__law_is_sheet
        simp [i4]
        rfl
      · rfl
    | str i =>
      have i4 : on2 fIsi [.d (.str i), .d (.ty "tuple")] = some (.d (.bl false)) := rfl
      have e : shB (.str i) = false := rfl
      rw [e]
      refine' R__law_is_sheet (e := _) ?_ ?_
      rotate_left 1
      · unfold b__law_is_sheet
        simp [i4]
        rfl
      · rfl
    | tup xs =>
      have i4 : on2 fIsi [.d (.tup xs), .d (.ty "tuple")] = some (.d (.bl true)) := rfl
      have hx := (pv_tup.mp h).2
      by_cases h3 : xs.length = 3
      · obtain ⟨n, L, U, rfl⟩ : ∃ a b c, xs = [a, b, c] := by
          match xs, h3 with
          | [a, b, c], _ => exact ⟨a, b, c, rfl⟩
        have hn := hx n (by simp)
        have hL := hx L (by simp)
        have hU := hx U (by simp)
        have lU : fLenU [.d (.tup [n, L, U])] = some (.d (.int 3)) := rfl
        have j0 : fIx (.d (.tup [n, L, U])) (.d (.int 0)) = some (.d n) := rfl
        have j1 : fIx (.d (.tup [n, L, U])) (.d (.int 1)) = some (.d L) := rfl
        have j2 : fIx (.d (.tup [n, L, U])) (.d (.int 2)) = some (.d U) := rfl
        have kn := v_lisint n 16 hn
        have e : shB (.tup [n, L, U]) = shB3 n L U := rfl
        rw [e]
        unfold shB3
        have iL := isi_tup hL
        have iU := isi_tup hU
        cases cn : isnB 16 n with
        | false =>
          rw [cn] at kn
          rw [Bool.false_and]
          generalize D.tup [n, L, U] = X at *
          refine' R__law_is_sheet (e := _) ?_ ?_
          rotate_left 1
          · unfold b__law_is_sheet
            simp [i4, lU, j0, kn]
            rfl
          · rfl
        | true =>
          rw [cn] at kn
          rw [Bool.true_and]
          cases tL : tupB L with
          | false =>
            rw [tL] at iL
            rw [Bool.false_and]
            generalize D.tup [n, L, U] = X at *
            refine' R__law_is_sheet (e := _) ?_ ?_
            rotate_left 1
            · unfold b__law_is_sheet
              simp [i4, lU, j0, kn, j1, iL]
              rfl
            · rfl
          | true =>
            rw [tL] at iL
            obtain ⟨ls, rfl⟩ : ∃ ls, L = .tup ls := by
              cases L with
              | tup ls => exact ⟨ls, rfl⟩
              | _ => cases tL
            obtain ⟨i, rfl⟩ : ∃ i, n = .int i := by
              cases n with
              | int i => exact ⟨i, rfl⟩
              | _ => cases cn
            have e2 : lsD (.tup ls) = ls := rfl
            have e4 : nvD (.int i) = i := rfl
            rw [e2, e4, Bool.true_and]
            have lL : fLenU [.d (.tup ls)] = some (.d (.int (ls.length : Nat))) := y13
            cases k with
            | zero => simp [pvB] at hL
            | succ k =>
              have pL := pv_tup.mp hL
              by_cases c6 : ls.length ≤ 60
              · rw [decide_eq_true c6, Bool.true_and]
                have c6' : ¬ (60 : Int) < ((ls.length : Nat) : Int) := by omega
                have g := gR1_n (m := ls.length) (by omega)
                have lp := ls_loop (k0 := k) (by omega) (.tup [.int i, .tup ls, U]) U i ls rfl pL.2 .no ls.length 0 .no (by omega) rfl
                rw [List.drop_zero] at lp
                cases hb : linesB i 0 ls with
                | false =>
                  obtain ⟨t1, lp⟩ := lp.2 hb
                  rw [Bool.false_and, Bool.and_false, Bool.and_false]
                  generalize idx 0 ls.length = IX at *
                  generalize ((ls.length : Nat) : Int) = m at *
                  generalize D.tup [.int i, .tup ls, U] = X at *
                  generalize D.tup ls = TL at *
                  refine' R__law_is_sheet (e := [.p (.d X), t1, .no]) ?_ rfl
                  unfold b__law_is_sheet
                  refine seqA (by simp [i4, lU, j0, kn, j1, iL, lL, c6', -MX.y13] <;> rfl) ?_
                  simp only [MX.z7]
                  refine seqA (Eq.trans (sFor_ok (by simp [j1, lL, g, -MX.y13] <;> rfl)) lp) ?_
                  exact MX.z8
                | true =>
                  obtain ⟨t1, lp⟩ := lp.1 hb
                  rw [Bool.true_and]
                  cases tU : tupB U with
                  | false =>
                    rw [tU] at iU
                    rw [Bool.false_and]
                    generalize idx 0 ls.length = IX at *
                    generalize ((ls.length : Nat) : Int) = m at *
                    generalize D.tup [.int i, .tup ls, U] = X at *
                    generalize D.tup ls = TL at *
                    refine' R__law_is_sheet (e := [.p (.d X), t1, .no]) ?_ rfl
                    unfold b__law_is_sheet
                    refine seqA (by simp [i4, lU, j0, kn, j1, iL, lL, c6', -MX.y13] <;> rfl) ?_
                    simp only [MX.z7]
                    refine seqA (Eq.trans (sFor_ok (by simp [j1, lL, g, -MX.y13] <;> rfl)) lp) ?_
                    simp only [MX.z7]
                    simp [j2, iU]
                  | true =>
                    rw [tU] at iU
                    obtain ⟨us, rfl⟩ : ∃ us, U = .tup us := by
                      cases U with
                      | tup us => exact ⟨us, rfl⟩
                      | _ => cases tU
                    have e3 : lsD (.tup us) = us := rfl
                    rw [e3, Bool.true_and]
                    have lUU : fLenU [.d (.tup us)] = some (.d (.int (us.length : Nat))) := y13
                    have pU := pv_tup.mp hU
                    by_cases c8 : us.length ≤ 8
                    · rw [decide_eq_true c8, Bool.true_and]
                      have c8' : ¬ (8 : Int) < ((us.length : Nat) : Int) := by omega
                      have lc := lc_mf (vs := [2]) (t := tName 2) (c := c1__law_is_sheet) (el := dVar 2) (f := fun y : D => y) (g := fun y => O.d y) (P := fun y => !wirB (i + ((ls.length : Nat) : Int)) y) (e := [.p (.d (.tup [.int i, .tup ls, .tup us])), t1, .no]) us (by omega) fun y hy => by
                        have k1 := v_lisint y (i + ((ls.length : Nat) : Int) - 1) (pU.2 y hy)
                        rw [isn_wir (pU.2 y hy)] at k1
                        clear kn iL iU lp
                        generalize wirB (i + ((ls.length : Nat) : Int)) y = b at *
                        generalize ((ls.length : Nat) : Int) = m at *
                        generalize hz : i + m - 1 = z at *
                        generalize D.tup [.int i, .tup ls, .tup us] = X at *
                        generalize D.tup ls = TL at *
                        exact ⟨[.p (.d X), t1, .v (.d y)], by simp, by simp [j0, j1, lL, hz, k1, -MX.y13], fun _ => by simp, rfl⟩
                      rw [List.map_id'] at lc
                      have fa := flt_all (wirB (i + ((ls.length : Nat) : Int))) us
                      have lF : fLenU [.lst ((us.filter fun y => !wirB (i + ((ls.length : Nat) : Int)) y).map fun y => O.d y)] = some (.d (.int (((us.filter fun y => !wirB (i + ((ls.length : Nat) : Int)) y).length : Nat) : Int))) := by rw [y14, List.length_map]
                      rw [← fa]
                      generalize (((us.filter fun y => !wirB (i + ((ls.length : Nat) : Int)) y).length : Nat) : Int) = fl at *
                      generalize (us.filter fun y => !wirB (i + ((ls.length : Nat) : Int)) y).map (fun y => O.d y) = FO at *
                      generalize idx 0 ls.length = IX at *
                      generalize ((us.length : Nat) : Int) = m2 at *
                      generalize ((ls.length : Nat) : Int) = m at *
                      generalize D.tup [.int i, .tup ls, .tup us] = X at *
                      generalize D.tup ls = TL at *
                      have aU : any1 (.d (.tup us)) = fun e => .ok us e := rfl
                      refine' R__law_is_sheet (e := [.p (.d X), t1, .no]) ?_ rfl
                      unfold b__law_is_sheet
                      refine seqA (by simp [i4, lU, j0, kn, j1, iL, lL, c6', -MX.y13] <;> rfl) ?_
                      simp only [MX.z7]
                      refine seqA (Eq.trans (sFor_ok (by simp [j1, lL, g, -MX.y13] <;> rfl)) lp) ?_
                      simp only [MX.z7]
                      refine seqA (by simp [j2, iU, lUU, c8', -MX.y13] <;> rfl) ?_
                      simp only [MX.z7]
                      simp [j2, lc, lF, -MX.y14]
                    · rw [decide_eq_false c8, Bool.false_and]
                      have c8' : (8 : Int) < ((us.length : Nat) : Int) := by omega
                      generalize idx 0 ls.length = IX at *
                      generalize ((us.length : Nat) : Int) = m2 at *
                      generalize ((ls.length : Nat) : Int) = m at *
                      generalize D.tup [.int i, .tup ls, .tup us] = X at *
                      generalize D.tup ls = TL at *
                      generalize D.tup us = TU at *
                      refine' R__law_is_sheet (e := [.p (.d X), t1, .no]) ?_ rfl
                      unfold b__law_is_sheet
                      refine seqA (by simp [i4, lU, j0, kn, j1, iL, lL, c6', -MX.y13] <;> rfl) ?_
                      simp only [MX.z7]
                      refine seqA (Eq.trans (sFor_ok (by simp [j1, lL, g, -MX.y13] <;> rfl)) lp) ?_
                      simp only [MX.z7]
                      simp [j2, iU, lUU, c8', -MX.y13]
              · rw [decide_eq_false c6, Bool.false_and]
                have c6' : (60 : Int) < ((ls.length : Nat) : Int) := by omega
                generalize ((ls.length : Nat) : Int) = m at *
                generalize D.tup [.int i, .tup ls, U] = X at *
                generalize D.tup ls = TL at *
                refine' R__law_is_sheet (e := _) ?_ ?_
                rotate_left 1
                · unfold b__law_is_sheet
                  simp [i4, lU, j0, kn, j1, iL, lL, c6', -MX.y13]
                  rfl
                · rfl
      · rw [shB_len h3]
        have lU : fLenU [.d (.tup xs)] = some (.d (.int (xs.length : Nat))) := y13
        have e3 : ¬ ((xs.length : Nat) : Int) = 3 := by omega
        generalize ((xs.length : Nat) : Int) = m at *
        generalize D.tup xs = X at *
        refine' R__law_is_sheet (e := _) ?_ ?_
        rotate_left 1
        · unfold b__law_is_sheet
          simp [i4, lU, e3, -MX.y13]
          rfl
        · rfl
    | _ => simp [pvB] at h
end K01
namespace K01
open PySem L2 MX LA
theorem try_rt {db : En → Out} {hs} {e e1 : En} {o : O} (h : db e = .rt o e1) : sTryM db hs e = .rt o e1 := by unfold sTryM; rw [h]
theorem try_ex {db : En → Out} {sub : String → Option Bool} {hd : String → En → Out} {e e1 e2 : En} {c : String} {ps : List (Str × D)} {o : O} (h : db e = .exc c ps e1) (hs : sub c = some true) (hh : hd c e1 = .rt o e2) : sTryM db [(sub, hd)] e = .rt o e2 := by
  unfold sTryM
  rw [h]
  show sTryM.go c ps e1 [(sub, hd)] = _
  unfold sTryM.go
  rw [hs]
  show (match hd c e1 with
      | .exc _ _ _ => Out.bad
      | o => o) = _
  rw [hh]
theorem v_check {k : Nat} (hk : k ≤ 58) (x : D) (h : pvB k x = true) : (shB x = true → d_check_sheet [.d x] = .ok (.d .non) [some (.d x)]) ∧ (shB x = false → d_check_sheet [.d x] = .exc "BadSheet" [] [some (.d x)]) := by
  have ks := v_issheet hk x h
  refine ⟨fun e => ?_, fun e => ?_⟩
  · rw [e] at ks
    refine' N_check_sheet (e := _) ?_ ?_
    rotate_left 1
    · unfold b_check_sheet
      exact Eq.trans (by simp [ks] <;> rfl) rfl
    · rfl
  · rw [e] at ks
    refine' X_check_sheet (e := _) ?_ ?_
    rotate_left 1
    · unfold b_check_sheet
      exact Eq.trans (by simp [ks] <;> rfl) rfl
    · rfl
def wrS (b : Bool) : Str := if b = true then Str.ofString "right" else Str.ofString "wrong"
theorem v_lchecked {k : Nat} (hk : k ≤ 58) (x : D) (h : pvB k x = true) (b : Bool) : d__law_checked [.d x, .d (.bl b)] = .ok (.d (.str (wrS (shB x)))) [some (.d x), some (.d (.bl b))] := by
  have vc := v_check hk x h
  have isn : fIsN (.d .non) (.d .non) = some (.d (.bl true)) := rfl
  cases hs : shB x with
  | true =>
    have k1 := vc.1 hs
    have e : wrS true = Str.ofString "right" := rfl
    rw [e]
    refine' R__law_checked (e := [.p (.d x), .p (.d (.bl b)), .v (.d .non)]) ?_ rfl
    unfold b__law_checked
    refine try_rt ?_
    cases b with
    | true =>
      refine seqA (by simp [k1] <;> rfl) ?_
      simp only [MX.z7]
      simp [isn]
    | false =>
      refine seqA (by simp [k1] <;> rfl) ?_
      simp only [MX.z7]
      simp [isn]
  | false =>
    have k1 := vc.2 hs
    have e : wrS false = Str.ofString "wrong" := rfl
    rw [e]
    refine' R__law_checked (e := [.p (.d x), .p (.d (.bl b)), .no]) ?_ rfl
    unfold b__law_checked
    refine try_ex (c := "BadSheet") (ps := []) (e1 := [.p (.d x), .p (.d (.bl b)), .no]) ?_ (by decide +kernel) (by simp <;> rfl)
    cases b with
    | true => exact seqe (by simp [k1] <;> rfl)
    | false => exact seqe (by simp [k1] <;> rfl)
theorem v_lshuf (c : List Int) (S0 : Sx) (h00 : 0 ≤ S0.s0) (some0 : List D) (hn : some0.length ≤ 1000) : ∃ (S' : Sx) (r : List D), 0 ≤ S'.s0 ∧ (∀ y ∈ r, y ∈ some0) ∧ r.length = some0.length ∧
    d__law_shuffled [stO c S0, .lst (some0.map O.d)] = .ok (.lst (r.map O.d)) [some (stO c S'), some (.lst (some0.map O.d))] := by
  have loop : ∀ (m k : Nat) (S : Sx) (left found : List D) (s4 s5 : Sl), 0 ≤ S.s0 → left.length = m → found.length + m ≤ 1000 → (∀ y ∈ left, y ∈ some0) → (∀ y ∈ found, y ∈ some0) → s4.pinned = false → s5.pinned = false →
      ∃ (S' : Sx) (r : List D) (l' : O) (t4 t5 : Sl), 0 ≤ S'.s0 ∧ (∀ y ∈ r, y ∈ some0) ∧ r.length = found.length + m ∧
        sForL (tName 4) l1__law_shuffled (idx k m) [.p (stO c S), .p (.lst (some0.map O.d)), .v (.lst (left.map O.d)), .v (.lst (found.map O.d)), s4, s5] = .nx [.p (stO c S'), .p (.lst (some0.map O.d)), .v l', .v (.lst (r.map O.d)), t4, t5] := by
    intro m
    induction m with
    | zero => exact fun k S left found s4 s5 h0 _ _ _ hf _ _ => ⟨S, found, _, s4, s5, h0, hf, rfl, by rw [idx_0]; exact u1⟩
    | succ m ih =>
      intro k S left found s4 s5 h0 hl hb hL hF h4 h5
      obtain ⟨S1, r, g1, r0, r1, kt⟩ := v_take c S h0 (lim := (left.length : Int)) (by omega) (by omega)
      obtain ⟨d, rfl⟩ := Int.eq_ofNat_of_zero_le r0
      have hd : d < left.length := by omega
      have ed := List.getElem?_eq_getElem hd
      have ix : fIx (.lst (left.map O.d)) (.d (.int (d : Int))) = some (.d left[d]) := ix_lo ed
      have md := List.getElem_mem hd
      have lU : fLenU [.lst (left.map O.d)] = some (.d (.int (left.length : Nat))) := by rw [y14, List.length_map]
      have s1 : fSl (.lst (left.map O.d)) none (some (d : Int)) = some (.lst ((left.take d).map O.d)) := fSl_o (f := fun x => x)
      have s2 : fSl (.lst (left.map O.d)) (some ((d : Int) + 1)) none = some (.lst ((left.drop (d + 1)).map O.d)) := by
        show (match (fSlL (.lst (left.map O.d)) (some (((d + 1 : Nat) : Int))) none) with
          | some z => some z
          | none => _) = _
        unfold fSlL
        have e : (O.lst (left.map O.d)).ls = some left := leafs_map left
        rw [e]
        show some (O.lst ((cutD left (some (((d + 1 : Nat) : Int))) none).map .d)) = _
        rw [cut_frN]
      have ca : fAdd (.lst ((left.take d).map O.d)) (.lst ((left.drop (d + 1)).map O.d)) = some (.lst ((left.take d ++ left.drop (d + 1)).map O.d)) := ls_cat (by rw [List.length_take, List.length_drop]; omega)
      have hz : (found.map O.d).length < sizeLine := by rw [List.length_map]; exact Nat.lt_of_lt_of_le (show found.length < 1001 by omega) (by decide)
      obtain ⟨S', rr, l', t4, t5, q1, q2, q3, lp⟩ := ih (k + 1) S1 (left.take d ++ left.drop (d + 1)) (found ++ [left[d]]) (.v (.d (.int (k : Int)))) (.v (.d (.int (d : Int)))) g1 (by rw [List.length_append, List.length_take, List.length_drop]; omega) (by rw [List.length_append, List.length_singleton]; omega) (fun y hy => by
        rcases List.mem_append.mp hy with h | h
        · exact hL y (List.mem_of_mem_take h)
        · exact hL y (List.mem_of_mem_drop h)) (fun y hy => by
        rcases List.mem_append.mp hy with h | h
        · exact hF y h
        · rw [List.mem_singleton.mp h]; exact hL _ md) rfl rfl
      refine ⟨S', rr, l', t4, t5, q1, q2, by rw [q3, List.length_append, List.length_singleton]; omega, ?_⟩
      have em : (found ++ [left[d]]).map O.d = found.map O.d ++ [.d left[d]] := by rw [List.map_append]; rfl
      rw [idx_s, ← lp, em]
      have kt : d__law_take [stO c S, .d (.int (left.length : Int))] = .ok (.d (.int (d : Int))) [some (stO c S1), some (.d (.int (left.length : Int)))] := kt
      clear ih lp em
      generalize left[d] = x at *
      generalize (left.take d ++ left.drop (d + 1)).map O.d = L2' at *
      generalize (left.take d).map O.d = LA' at *
      generalize (left.drop (d + 1)).map O.d = LB' at *
      generalize left.map O.d = LL at *
      generalize ((left.length : Nat) : Int) = n at *
      generalize (d : Int) = d' at *
      generalize some0.map O.d = SO at *
      generalize found.map O.d = FO at *
      obtain ⟨so, es⟩ : ∃ so, stO c S = .lst so := ⟨_, rfl⟩
      obtain ⟨so1, es1⟩ : ∃ so, stO c S1 = .lst so := ⟨_, rfl⟩
      rw [es, es1] at kt
      rw [es, es1]
      refine for_nx (e1 := [.p (.lst so), .p (.lst SO), .v (.lst LL), .v (.lst FO), .v (.d (.int (k : Int))), s5]) (by simp [h4]) ?_
      generalize (k : Int) = k' at *
      refine seqA (by simp [lU, kt, h5, -MX.y14] <;> rfl) ?_
      simp only [MX.z7]
      refine seqA (by simp [ix, fAppend, hz] <;> rfl) ?_
      simp only [MX.z7]
      simp [s1, s2, ca]
  obtain ⟨S', r, l', t4, t5, q1, q2, q3, lp⟩ := loop some0.length 0 S0 some0 [] .no .no h00 rfl (by simpa using hn) (fun y h => h) (fun y h => by cases h) rfl rfl
  refine ⟨S', r, q1, q2, by simpa using q3, ?_⟩
  have g := gR1_n (m := some0.length) (by omega)
  have lU : fLenU [.lst (some0.map O.d)] = some (.d (.int (some0.length : Nat))) := by rw [y14, List.length_map]
  have tl : on1 fList [.lst (some0.map O.d)] = some (.lst (some0.map O.d)) := by
    show ((leafs (some0.map O.d)).map fun ds => O.lst (ds.map O.d)) = _
    rw [leafs_map]; rfl
  have lp : sForL (tName 4) l1__law_shuffled (idx 0 some0.length) [.p (stO c S0), .p (.lst (some0.map O.d)), .v (.lst (some0.map O.d)), .v (.lst []), .no, .no] = _ := lp
  have z0 : (0 : Nat) ≤ sizeLine := by decide
  generalize r.map O.d = RR at *
  generalize some0.map O.d = SO at *
  generalize idx 0 some0.length = IX at *
  generalize ((some0.length : Nat) : Int) = n at *
  refine' R__law_shuffled (e := [.p (stO c S'), .p (.lst SO), .v l', .no, t4, t5]) ?_ rfl
  unfold stO at *
  unfold b__law_shuffled
  refine seqA (by simp [tl] <;> rfl) ?_
  simp only [MX.z7]
  refine seqA (by simp [z0] <;> rfl) ?_
  simp only [MX.z7]
  refine seqA (Eq.trans (sFor_ok (by simp [lU, g, -MX.y14] <;> rfl)) lp) ?_
  simp only [MX.z7]
  simp
end K01
namespace K01
open PySem L2 MX LA
def tw (t : String) (xs : List D) : D := .tup (.str (Str.ofString t) :: xs)
def md1 (w : Int) : List D := [tw "add" [.int 0, .int 0], tw "times" [.int 0, .int 0], tw "scale" [.int 5, .int 0, .int (-7)], tw "add" [.int w, .int 0], tw "add" [.int 0, .int w], tw "times" [.int w, .int 0], tw "times" [.int 0, .int w], tw "scale" [.int 1, .int w, .int 1]]
def md2 (w : Int) : List D := [tw "add" [.int (w - 1), .int (w - 1)], tw "scale" [.int 1, .int (w - 1), .int 1], tw "add" [.int (-1), .int 0], tw "times" [.int 0, .int (-1)], tw "scale" [.int 1, .int (-1), .int 1], tw "Add" [.int 0, .int 0], tw "" [.int 0, .int 0], tw "minus" [.int 0, .int 0]]
def md3 : List D := [tw "add" [.int 0], tw "add" [.int 0, .int 0, .int 0], tw "times" [.int 0], tw "times" [.int 0, .int 0, .int 0], tw "scale" [.int 1, .int 0], tw "scale" [.int 1, .int 0, .int 1, .int 1], tw "add" [.str (Str.ofString "0"), .int 0], tw "times" [.int 0, .tup [.int 0]], tw "scale" [.str (Str.ofString "1"), .int 0, .int 1]]
def md4 : List D := [tw "scale" [.int 1, .int 0, .str (Str.ofString "1")], tw "scale" [.tup [.int 1], .int 0, .int 1], .tup [], .int 0, .str (Str.ofString "add"), .str (Str.ofString "add 0 0"), tw "add" [], .tup [.int 0, .int 0, .int 0], .tup [tw "add" [.int 0, .int 0]], tw "scale" [.int (10 ^ 59), .int 0, .int (-(10 ^ 59))]]
def made (w : Int) : List D := md1 w ++ md2 w ++ md3 ++ md4
theorem nb {i : Int} (h1 : -10000 ≤ i) (h2 : i ≤ 10000) : numB (.int i) = true := by
  show (decide _ && decide _) = true
  rw [decide_eq_true (by omega), decide_eq_true (by omega)]; rfl
theorem pv_mono : ∀ {k m : Nat} {x : D}, k ≤ m → pvB k x = true → pvB m x = true
  | 0, _, x, _, h => by cases x <;> simp [pvB] at h
  | k + 1, 0, _, h, _ => by omega
  | k + 1, m + 1, x, h, hx => by
    cases x with
    | tup xs =>
      obtain ⟨h1, h2⟩ := pv_tup.mp hx
      exact pv_tup.mpr ⟨h1, fun y hy => pv_mono (by omega) (h2 y hy)⟩
    | int i => simpa [pvB] using hx
    | str i => simpa [pvB] using hx
    | _ => simp [pvB] at hx
theorem pv_i {k : Nat} {i : Int} (h1 : -10000 ≤ i) (h2 : i ≤ 10000) : pvB (k + 1) (.int i) = true := by
  show numB (.int i) = true
  exact nb h1 h2
theorem pv_s {k : Nat} {s : String} (h : PyData.strOk (Str.ofString s) = true) : pvB (k + 1) (.str (Str.ofString s)) = true := h
theorem pv_tw {k : Nat} {t : String} {xs : List D} (ht : PyData.strOk (Str.ofString t) = true) (hl : xs.length ≤ 900) (h : ∀ x ∈ xs, pvB (k + 1) x = true) : pvB (k + 2) (tw t xs) = true :=
  pv_tup.mpr ⟨by rw [List.length_cons]; omega, fun x hx => by
    rcases List.mem_cons.mp hx with rfl | hx
    · exact ht
    · exact h x hx⟩
theorem ok0 : PyData.strOk (Str.ofString "0") = true := by decide +kernel
theorem ok1 : PyData.strOk (Str.ofString "1") = true := by decide +kernel
theorem ok2 : PyData.strOk (Str.ofString "2") = true := by decide +kernel
theorem okm : PyData.strOk (Str.ofString "minus") = true := by decide +kernel
theorem oke : PyData.strOk (Str.ofString "") = true := by decide +kernel
theorem okB : PyData.strOk (Str.ofString "Add") = true := by decide +kernel
theorem okl : PyData.strOk (Str.ofString "add 0 0") = true := by decide +kernel
theorem okh : PyData.strOk (Str.ofString "sheet") = true := by decide +kernel
theorem okc : PyData.strOk (Str.ofString "abc") = true := by decide +kernel
theorem pv_2 {a b : D} {P : D → Prop} (ha : P a) (hb : P b) : ∀ x ∈ [a, b], P x := fun x hx => by
  simp only [List.mem_cons, List.not_mem_nil, or_false] at hx
  rcases hx with rfl | rfl <;> assumption
theorem pv_3 {a b c : D} {P : D → Prop} (ha : P a) (hb : P b) (hc : P c) : ∀ x ∈ [a, b, c], P x := fun x hx => by
  simp only [List.mem_cons, List.not_mem_nil, or_false] at hx
  rcases hx with rfl | rfl | rfl <;> assumption
theorem pv_4 {a b c d : D} {P : D → Prop} (ha : P a) (hb : P b) (hc : P c) (hd : P d) : ∀ x ∈ [a, b, c, d], P x := fun x hx => by
  simp only [List.mem_cons, List.not_mem_nil, or_false] at hx
  rcases hx with rfl | rfl | rfl | rfl <;> assumption
theorem pv_1 {a : D} {P : D → Prop} (ha : P a) : ∀ x ∈ [a], P x := fun x hx => by
  rw [List.mem_singleton.mp hx]; exact ha
theorem made_pv {w : Int} (h1 : 0 ≤ w) (h2 : w ≤ 1000) : ∀ y ∈ made w, pvB 4 y = true := by
  have i : ∀ {k : Nat} {i : Int}, -10000 ≤ i → i ≤ 10000 → pvB (k + 1) (.int i) = true := fun h1 h2 => pv_i h1 h2
  have hA := okA
  have hT := okT
  have hS := okS
  intro y hy
  unfold made at hy
  rcases List.mem_append.mp hy with hy | hy
  · rcases List.mem_append.mp hy with hy | hy
    · rcases List.mem_append.mp hy with hy | hy
      · unfold md1 at hy
        simp only [List.mem_cons, List.not_mem_nil, or_false] at hy
        rcases hy with rfl | rfl | rfl | rfl | rfl | rfl | rfl | rfl
        all_goals first
          | exact pv_tw (by assumption) (by simp) (pv_2 (i (by omega) (by omega)) (i (by omega) (by omega)))
          | exact pv_tw (by assumption) (by simp) (pv_3 (i (by omega) (by omega)) (i (by omega) (by omega)) (i (by omega) (by omega)))
      · unfold md2 at hy
        simp only [List.mem_cons, List.not_mem_nil, or_false] at hy
        rcases hy with rfl | rfl | rfl | rfl | rfl | rfl | rfl | rfl
        all_goals first
          | exact pv_tw (by first | assumption | exact okB | exact oke | exact okm) (by simp) (pv_2 (i (by omega) (by omega)) (i (by omega) (by omega)))
          | exact pv_tw (by assumption) (by simp) (pv_3 (i (by omega) (by omega)) (i (by omega) (by omega)) (i (by omega) (by omega)))
    · unfold md3 at hy
      simp only [List.mem_cons, List.not_mem_nil, or_false] at hy
      rcases hy with rfl | rfl | rfl | rfl | rfl | rfl | rfl | rfl | rfl
      all_goals first
        | exact pv_tw (by assumption) (by simp) (pv_1 (i (by omega) (by omega)))
        | exact pv_tw (by assumption) (by simp) (pv_2 (i (by omega) (by omega)) (i (by omega) (by omega)))
        | exact pv_tw (by assumption) (by simp) (pv_2 (pv_s ok0) (i (by omega) (by omega)))
        | exact pv_tw (by assumption) (by simp) (pv_2 (i (by omega) (by omega)) (pv_tup.mpr ⟨by simp, pv_1 (i (by omega) (by omega))⟩))
        | exact pv_tw (by assumption) (by simp) (pv_3 (i (by omega) (by omega)) (i (by omega) (by omega)) (i (by omega) (by omega)))
        | exact pv_tw (by assumption) (by simp) (pv_3 (pv_s ok1) (i (by omega) (by omega)) (i (by omega) (by omega)))
        | exact pv_tw (by assumption) (by simp) (pv_4 (i (by omega) (by omega)) (i (by omega) (by omega)) (i (by omega) (by omega)) (i (by omega) (by omega)))
  · unfold md4 at hy
    simp only [List.mem_cons, List.not_mem_nil, or_false] at hy
    have hp : pvB 2 (.int (10 ^ 59)) = true := by decide +kernel
    have hp' : pvB 2 (.int (-(10 ^ 59))) = true := by decide +kernel
    rcases hy with rfl | rfl | rfl | rfl | rfl | rfl | rfl | rfl | rfl | rfl
    · exact pv_tw hS (by simp) (pv_3 (i (by omega) (by omega)) (i (by omega) (by omega)) (pv_s ok1))
    · exact pv_tw hS (by simp) (pv_3 (pv_tup.mpr ⟨by simp, pv_1 (i (by omega) (by omega))⟩) (i (by omega) (by omega)) (i (by omega) (by omega)))
    · exact pv_tup.mpr ⟨by simp, fun y hy => by cases hy⟩
    · exact i (by omega) (by omega)
    · exact pv_s hA
    · exact pv_s okl
    · exact pv_tw hA (by simp) (fun y hy => by cases hy)
    · exact pv_tup.mpr ⟨by simp, pv_3 (i (by omega) (by omega)) (i (by omega) (by omega)) (i (by omega) (by omega))⟩
    · exact pv_tup.mpr ⟨by simp, pv_1 (pv_tw hA (by simp) (pv_2 (i (by omega) (by omega)) (i (by omega) (by omega))))⟩
    · exact pv_mono (k := 3) (by omega) (pv_tw hS (by simp) (pv_3 hp (i (by omega) (by omega)) hp'))
end K01
set_option maxHeartbeats 8000000
namespace K01
open PySem L2 MX LA
theorem lnD_pv (l : Ln) {n : Nat} (hl : lok n l) (hn : n ≤ 1000) (hb : ∀ a i b, l = .sc a i b → big a ∧ big b) : pvB 3 (lnD l) = true := by
  have i : ∀ {k : Nat} {i : Int}, -10000 ≤ i → i ≤ 10000 → pvB (k + 1) (.int i) = true := fun h1 h2 => pv_i h1 h2
  have bg : ∀ {x : Int}, big x → pvB 2 (.int x) = true := fun {x} h => by
    show (decide _ && decide _) = true
    have h1 := h.1
    have h2 := h.2
    rw [decide_eq_true (by omega), decide_eq_true (by omega)]; rfl
  cases l with
  | ad a b =>
    have h1 := hl.1
    have h2 := hl.2
    exact pv_tw okA (by simp) (pv_2 (i (by omega) (by omega)) (i (by omega) (by omega)))
  | ti a b =>
    have h1 := hl.1
    have h2 := hl.2
    exact pv_tw okT (by simp) (pv_2 (i (by omega) (by omega)) (i (by omega) (by omega)))
  | sc a b c =>
    have h1 : b < n := hl
    obtain ⟨h2, h3⟩ := hb a b c rfl
    exact pv_tw okS (by simp) (pv_3 (bg h2) (i (by omega) (by omega)) (bg h3))
def ShBig (s : Sh) : Prop := ∀ a i b, Ln.sc a i b ∈ s.ls → big a ∧ big b
theorem lok_mem : ∀ (ls : List Ln) (n : Nat), lsok n ls → ∀ l ∈ ls, lok (n + ls.length) l
  | [], _, _, l, h => by cases h
  | l0 :: ls, n, h, l, hm => by
    have up : ∀ {a b : Nat} {l : Ln}, a ≤ b → lok a l → lok b l := fun {a b l} hab hl => by
      cases l with
      | ad i j => exact ⟨Nat.lt_of_lt_of_le hl.1 hab, Nat.lt_of_lt_of_le hl.2 hab⟩
      | ti i j => exact ⟨Nat.lt_of_lt_of_le hl.1 hab, Nat.lt_of_lt_of_le hl.2 hab⟩
      | sc a i b => exact Nat.lt_of_lt_of_le (show i < _ from hl) hab
    rcases List.mem_cons.mp hm with rfl | hm
    · exact up (by omega) h.1
    · exact up (by rw [List.length_cons]; omega) (lok_mem ls (n + 1) h.2 l hm)
theorem lines_pv (s : Sh) (hs : ShOk s) (hb : ShBig s) : ∀ x ∈ s.ls.map lnD, pvB 3 x = true := fun x hx => by
  obtain ⟨l, hl, rfl⟩ := List.mem_map.mp hx
  have n16 := hs.n16
  have l60 := hs.l60
  exact lnD_pv l (lok_mem s.ls s.n hs.ln l hl) (by omega) fun a i b e => hb a i b (e ▸ hl)
theorem outs_pv (s : Sh) (hs : ShOk s) : ∀ x ∈ s.os.map di, pvB 1 x = true := fun x hx => by
  obtain ⟨o, ho, rfl⟩ := List.mem_map.mp hx
  have := hs.ou o ho
  have n16 := hs.n16
  have l60 := hs.l60
  exact pv_i (by omega) (by omega)
def rows (U : List D) (w : Int) : List D := [.tup (U ++ [.int w]), .tup (U ++ [.int (w - 1)]), .tup (U ++ [.int (-1)]), .tup (U ++ [.str (Str.ofString "0")]), .tup (U ++ [.tup [.int 0]]), .tup (List.replicate 8 (.int 0)), .tup (List.replicate 9 (.int 0)), .tup [], .str (Str.ofString "0"), .int 0, .tup (List.replicate 8 (.int (w - 1))), .tup [.int w], .tup U.reverse]
def firsts (n : Int) : List D := [.int 0, .int (n + 1), .int (n - 1), .int 16, .int 17, .int (-1), .str (Str.ofString "2"), .tup [.int 2], .tup []]
def fixed : List D := [.tup [.int 2, .tup (List.replicate 60 (tw "add" [.int 0, .int 1])), .tup [.int 61]], .tup [.int 2, .tup (List.replicate 61 (tw "add" [.int 0, .int 1])), .tup [.int 0]], .tup [.int 16, .tup (List.replicate 60 (tw "times" [.int 15, .int 0])), .tup (List.replicate 8 (.int 75))], .tup [.int 17, .tup [], .tup []], .tup [.int 0, .tup [], .tup []], .tup [.int 0, .tup [], .tup [.int 0]], .tup [.int 16, .tup [], .tup [.int 15]]]
def lins (L : List D) : List D := [.tup [], .str (Str.ofString "add"), .int 0, .tup L.reverse, .tup (L.drop 1), .tup (L ++ L), .tup [.tup L]]
def lasts (n : Int) (L U : List D) : List D := [.tup [.int n, .tup L], .tup [.int n, .tup L, .tup U, .tup []], .tup [], .int 0, .str (Str.ofString "sheet"), .str (Str.ofString "abc"), .tup [.tup [.int n, .tup L, .tup U]], .tup L, .tup [.tup L, .int n, .tup U]]
def faults (n : Int) (L U : List D) (at_ : Nat) (w wl : Int) : List D :=
  (made w).map (fun x => .tup [.int n, .tup (L.take at_ ++ [x] ++ L.drop at_), .tup U]) ++ (rows U wl).map (fun x => .tup [.int n, .tup L, x]) ++ (firsts n).map (fun x => .tup [x, .tup L, .tup U]) ++ fixed ++ (lins L).map (fun x => .tup [.int n, x, .tup U]) ++ lasts n L U
theorem made_len (w : Int) : (made w).length = 35 := rfl
theorem faults_len (n : Int) (L U : List D) (a : Nat) (w wl : Int) : (faults n L U a w wl).length = 80 := by
  unfold faults
  simp only [List.length_append, List.length_map, made_len]
  rfl
theorem rows_pv {U : List D} {w : Int} (hU : ∀ x ∈ U, pvB 1 x = true) (lU : U.length ≤ 100) (h0 : 0 ≤ w) (h1 : w ≤ 1000) : ∀ x ∈ rows U w, pvB 4 x = true := by
  have i : ∀ {k : Nat} {i : Int}, -10000 ≤ i → i ≤ 10000 → pvB (k + 1) (.int i) = true := fun h1 h2 => pv_i h1 h2
  have U3 : ∀ x ∈ U, pvB 3 x = true := fun x hx => pv_mono (by omega) (hU x hx)
  have ap : ∀ y, pvB 3 y = true → pvB 4 (.tup (U ++ [y])) = true := fun y hy => pv_tup.mpr ⟨by rw [List.length_append, List.length_singleton]; omega, fun x hx => by
    rcases List.mem_append.mp hx with hx | hx
    · exact U3 x hx
    · rw [List.mem_singleton.mp hx]; exact hy⟩
  have rp : ∀ (m : Nat) (y : D), m ≤ 100 → pvB 3 y = true → pvB 4 (.tup (List.replicate m y)) = true := fun m y hm hy => pv_tup.mpr ⟨by rw [List.length_replicate]; omega, fun x hx => by rw [List.eq_of_mem_replicate hx]; exact hy⟩
  intro x hx
  unfold rows at hx
  simp only [List.mem_cons, List.not_mem_nil, or_false] at hx
  rcases hx with rfl | rfl | rfl | rfl | rfl | rfl | rfl | rfl | rfl | rfl | rfl | rfl | rfl
  · exact ap _ (i (by omega) (by omega))
  · exact ap _ (i (by omega) (by omega))
  · exact ap _ (i (by omega) (by omega))
  · exact ap _ (pv_s ok0)
  · exact ap _ (pv_tup.mpr ⟨by simp, pv_1 (i (by omega) (by omega))⟩)
  · exact rp _ _ (by omega) (i (by omega) (by omega))
  · exact rp _ _ (by omega) (i (by omega) (by omega))
  · exact pv_tup.mpr ⟨by simp, fun y hy => by cases hy⟩
  · exact pv_s ok0
  · exact i (by omega) (by omega)
  · exact rp _ _ (by omega) (i (by omega) (by omega))
  · exact pv_tup.mpr ⟨by simp, pv_1 (i (by omega) (by omega))⟩
  · exact pv_tup.mpr ⟨by rw [List.length_reverse]; omega, fun x hx => U3 x (List.mem_reverse.mp hx)⟩
theorem firsts_pv {n : Int} (h0 : 0 ≤ n) (h1 : n ≤ 1000) : ∀ x ∈ firsts n, pvB 3 x = true := by
  have i : ∀ {k : Nat} {i : Int}, -10000 ≤ i → i ≤ 10000 → pvB (k + 1) (.int i) = true := fun h1 h2 => pv_i h1 h2
  intro x hx
  unfold firsts at hx
  simp only [List.mem_cons, List.not_mem_nil, or_false] at hx
  rcases hx with rfl | rfl | rfl | rfl | rfl | rfl | rfl | rfl | rfl
  · exact i (by omega) (by omega)
  · exact i (by omega) (by omega)
  · exact i (by omega) (by omega)
  · exact i (by omega) (by omega)
  · exact i (by omega) (by omega)
  · exact i (by omega) (by omega)
  · exact pv_s ok2
  · exact pv_tup.mpr ⟨by simp, pv_1 (i (by omega) (by omega))⟩
  · exact pv_tup.mpr ⟨by simp, fun y hy => by cases hy⟩
theorem fixed_pv : ∀ x ∈ fixed, pvB 6 x = true := by
  have h : fixed.all (pvB 6) = true := by decide +kernel
  exact List.all_eq_true.mp h
theorem lins_pv {L : List D} (hL : ∀ x ∈ L, pvB 3 x = true) (lL : L.length ≤ 100) : ∀ x ∈ lins L, pvB 6 x = true := by
  have L5 : ∀ x ∈ L, pvB 5 x = true := fun x hx => pv_mono (by omega) (hL x hx)
  intro x hx
  unfold lins at hx
  simp only [List.mem_cons, List.not_mem_nil, or_false] at hx
  rcases hx with rfl | rfl | rfl | rfl | rfl | rfl | rfl
  · exact pv_tup.mpr ⟨by simp, fun y hy => by cases hy⟩
  · exact pv_s okA
  · exact pv_i (by omega) (by omega)
  · exact pv_tup.mpr ⟨by rw [List.length_reverse]; omega, fun x hx => L5 x (List.mem_reverse.mp hx)⟩
  · exact pv_tup.mpr ⟨by rw [List.length_drop]; omega, fun x hx => L5 x (List.mem_of_mem_drop hx)⟩
  · exact pv_tup.mpr ⟨by rw [List.length_append]; omega, fun x hx => by
      rcases List.mem_append.mp hx with hx | hx <;> exact L5 x hx⟩
  · exact pv_tup.mpr ⟨by simp, pv_1 (pv_tup.mpr ⟨by omega, fun x hx => pv_mono (by omega) (hL x hx)⟩)⟩
theorem faults_pv {n : Int} {L U : List D} {a : Nat} {w wl : Int} (hL : ∀ x ∈ L, pvB 3 x = true) (lL : L.length ≤ 100) (hU : ∀ x ∈ U, pvB 1 x = true) (lU : U.length ≤ 100) (n0 : 0 ≤ n) (n1 : n ≤ 1000) (w0 : 0 ≤ w) (w1 : w ≤ 1000) (v0 : 0 ≤ wl) (v1 : wl ≤ 1000) :
    ∀ y ∈ faults n L U a w wl, pvB 8 y = true := by
  have pn : ∀ {k : Nat}, pvB (k + 1) (.int n) = true := pv_i (by omega) (by omega)
  have pL : ∀ {k : Nat}, 3 ≤ k → pvB (k + 1) (.tup L) = true := fun hk => pv_tup.mpr ⟨by omega, fun x hx => pv_mono hk (hL x hx)⟩
  have pU : ∀ {k : Nat}, 1 ≤ k → pvB (k + 1) (.tup U) = true := fun hk => pv_tup.mpr ⟨by omega, fun x hx => pv_mono hk (hU x hx)⟩
  have t3 : ∀ {a b c : D}, pvB 7 a = true → pvB 7 b = true → pvB 7 c = true → pvB 8 (.tup [a, b, c]) = true := fun ha hb hc => pv_tup.mpr ⟨by simp, pv_3 ha hb hc⟩
  intro y hy
  unfold faults at hy
  rcases List.mem_append.mp hy with hy | hy
  · rcases List.mem_append.mp hy with hy | hy
    · rcases List.mem_append.mp hy with hy | hy
      · rcases List.mem_append.mp hy with hy | hy
        · rcases List.mem_append.mp hy with hy | hy
          · obtain ⟨x, hx, rfl⟩ := List.mem_map.mp hy
            refine t3 pn (pv_tup.mpr ⟨?_, fun z hz => ?_⟩) (pU (by omega))
            · rw [List.length_append, List.length_append, List.length_take, List.length_drop, List.length_singleton]; omega
            · rcases List.mem_append.mp hz with hz | hz
              · rcases List.mem_append.mp hz with hz | hz
                · exact pv_mono (by omega) (hL z (List.mem_of_mem_take hz))
                · rw [List.mem_singleton.mp hz]; exact pv_mono (by omega) (made_pv w0 w1 x hx)
              · exact pv_mono (by omega) (hL z (List.mem_of_mem_drop hz))
          · obtain ⟨x, hx, rfl⟩ := List.mem_map.mp hy
            exact t3 pn (pL (by omega)) (pv_mono (by omega) (rows_pv hU lU v0 v1 x hx))
        · obtain ⟨x, hx, rfl⟩ := List.mem_map.mp hy
          exact t3 (pv_mono (by omega) (firsts_pv n0 n1 x hx)) (pL (by omega)) (pU (by omega))
      · exact pv_mono (by omega) (fixed_pv y hy)
    · obtain ⟨x, hx, rfl⟩ := List.mem_map.mp hy
      exact t3 pn (pv_mono (by omega) (lins_pv hL lL x hx)) (pU (by omega))
  · unfold lasts at hy
    simp only [List.mem_cons, List.not_mem_nil, or_false] at hy
    rcases hy with rfl | rfl | rfl | rfl | rfl | rfl | rfl | rfl | rfl
    · exact pv_tup.mpr ⟨by simp, pv_2 pn (pL (by omega))⟩
    · exact pv_tup.mpr ⟨by simp, pv_4 pn (pL (by omega)) (pU (by omega)) (pv_tup.mpr ⟨by simp, fun y hy => by cases hy⟩)⟩
    · exact pv_tup.mpr ⟨by simp, fun y hy => by cases hy⟩
    · exact pv_i (by omega) (by omega)
    · exact pv_s okh
    · exact pv_s okc
    · exact pv_tup.mpr ⟨by simp, pv_1 (pv_tup.mpr ⟨by simp, pv_3 pn (pL (by omega)) (pU (by omega))⟩)⟩
    · exact pL (by omega)
    · exact t3 (pL (by omega)) pn (pU (by omega))
end K01
set_option maxHeartbeats 8000000
namespace K01
open PySem L2 MX LA
theorem rp_t {x : D} {k : Nat} (h : k ≤ 1000) : fMul (.d (.tup [x])) (.d (.int (k : Int))) = some (.d (.tup (List.replicate k x))) := tp_rep1 h
section
variable (P0 P1 : Sl) (n at' w wl : Int) (L U : List D)
abbrev EF (s7 s8 s9 s10 : Sl) : En := [P0, P1, .v (.d (.int n)), .v (.d (.tup L)), .v (.d (.tup U)), .v (.d (.int at')), .v (.d (.int w)), s7, s8, s9, s10, .no]
theorem lf_made (at_ : Nat) (hL : L.length ≤ 100) (s9 s10 : Sl) : (sAsg (dLc (iAny (dVar 7)) [11] (tName 11) dYes e1__law_faults) (tName 8)) (EF P0 P1 n (at_ : Int) w L U (.v (.lst ((made w).map O.d))) .no s9 s10) =
    .nx (EF P0 P1 n (at_ : Int) w L U (.v (.d (.lst (made w)))) (.v (.lst (((made w).map fun x => D.tup [.int n, .tup (L.take at_ ++ [x] ++ L.drop at_), .tup U]).map O.d))) s9 s10) := by
  have t1 := sl_tt (xs := L) (j := at_)
  have t2 := sl_tf (xs := L) (j := at_)
  have z1 : (1 : Nat) ≤ sizeLine := by decide
  have z3 : (3 : Nat) ≤ sizeLine := by decide
  have lc := lc_m (vs := [11]) (t := tName 11) (el := e1__law_faults) (f := fun x : D => x) (g := fun x => O.d (.tup [.int n, .tup (L.take at_ ++ [x] ++ L.drop at_), .tup U])) (e := EF P0 P1 n (at_ : Int) w L U (.v (.d (.lst (made w)))) .no s9 s10) (made w) (by rw [made_len]; omega) fun x _ => by
    have c1 : fAdd (.d (.tup (L.take at_))) (.d (.tup [x])) = some (.d (.tup (L.take at_ ++ [x]))) := tp_cat (by rw [List.length_take, List.length_singleton]; omega)
    have c2 : fAdd (.d (.tup (L.take at_ ++ [x]))) (.d (.tup (L.drop at_))) = some (.d (.tup (L.take at_ ++ [x] ++ L.drop at_))) := tp_cat (by rw [List.length_append, List.length_take, List.length_drop, List.length_singleton]; omega)
    generalize L.take at_ ++ [x] ++ L.drop at_ = R at *
    generalize L.take at_ ++ [x] = R1 at *
    generalize L.take at_ = R2 at *
    generalize L.drop at_ = R3 at *
    generalize (at_ : Int) = a at *
    generalize made w = M at *
    exact ⟨[P0, P1, .v (.d (.int n)), .v (.d (.tup L)), .v (.d (.tup U)), .v (.d (.int a)), .v (.d (.int w)), .v (.d (.lst M)), .no, s9, s10, .v (.d x)], by simp, by simp [t1, t2, c1, c2, z1, z3], rfl⟩
  rw [List.map_id'] at lc
  have fz : fzs ((made w).map O.d) = made w := fzs_leaf _
  have em : ((made w).map fun x => O.d (.tup [.int n, .tup (L.take at_ ++ [x] ++ L.drop at_), .tup U])) = ((made w).map fun x => D.tup [.int n, .tup (L.take at_ ++ [x] ++ L.drop at_), .tup U]).map O.d := by rw [List.map_map]; rfl
  rw [em] at lc
  generalize ((made w).map fun x => D.tup [.int n, .tup (L.take at_ ++ [x] ++ L.drop at_), .tup U]).map O.d = R at *
  generalize hm : (made w).map O.d = MO at *
  generalize made w = M at *
  generalize (at_ : Int) = a at *
  simp [fz, lc]
theorem lf_rows (hU : U.length ≤ 100) (s7 s8 : Sl) : (sAsg (dLst (aCons (dBin fAdd (vS 4) (vT (dTup (aCons (dVar 9) aNil)))) (aCons (dBin fAdd (vS 4) (vT (dTup (aCons (dBin fSub (vS 9) (vT (dC (.int 1)))) aNil)))) (aCons (dBin fAdd (vS 4) (vT (dTup (aCons (dUn fNeg (vT (dC (.int 1)))) aNil)))) (aCons (dBin fAdd (vS 4) (vT (dTup (aCons (dC (.str (Str.ofString "0"))) aNil)))) (aCons (dBin fAdd (vS 4) (vT (dTup (aCons (dTup (aCons (dC (.int 0)) aNil)) aNil)))) (aCons (dBin fMul (vT (dTup (aCons (dC (.int 0)) aNil))) (vT (dC (.int 8)))) (aCons (dBin fMul (vT (dTup (aCons (dC (.int 0)) aNil))) (vT (dC (.int 9)))) (aCons (dTup aNil) (aCons (dC (.str (Str.ofString "0"))) (aCons (dC (.int 0)) (aCons (dBin fMul (vT (dTup (aCons (dBin fSub (vS 9) (vT (dC (.int 1)))) aNil))) (vT (dC (.int 8)))) (aCons (dTup (aCons (dVar 9) aNil)) (aCons (dUn fRevT (vS 4)) aNil)))))))))))))) (tName 10))
      (EF P0 P1 n at' w L U s7 s8 (.v (.d (.int wl))) .no) = .nx (EF P0 P1 n at' w L U s7 s8 (.v (.d (.int wl))) (.v (.lst ((rows U wl).map O.d)))) := by
  have c : ∀ y : D, fAdd (.d (.tup U)) (.d (.tup [y])) = some (.d (.tup (U ++ [y]))) := fun y => tp_cat (by rw [List.length_singleton]; omega)
  have r8 : ∀ y : D, fMul (.d (.tup [y])) (.d (.int 8)) = some (.d (.tup (List.replicate 8 y))) := fun y => rp_t (k := 8) (by omega)
  have r9 : ∀ y : D, fMul (.d (.tup [y])) (.d (.int 9)) = some (.d (.tup (List.replicate 9 y))) := fun y => rp_t (k := 9) (by omega)
  have rv : fRevT (.d (.tup U)) = some (.d (.tup U.reverse)) := rfl
  have z0 : (0 : Nat) ≤ sizeLine := by decide
  have z1 : (1 : Nat) ≤ sizeLine := by decide
  have z13 : (13 : Nat) ≤ sizeLine := by decide
  unfold rows
  simp [c, r8, r9, rv, z1, z13, -List.reduceReplicate]
end
end K01
set_option maxHeartbeats 8000000
namespace K01
open PySem L2 MX LA
section
variable (P0 P1 : Sl) (n at' w wl : Int) (L U : List D)
theorem lf_more (F : List D) (hF : F.length ≤ 500) (s7 : Sl) : (sAsg (dBin fAdd (vT (dBin fAdd (vS 8) (vT (dLc (iAny (dVar 10)) [11] (tName 11) dYes e2__law_faults)))) (vT (dLc (iAny (dTup (aCons (dC (.int 0)) (aCons (dBin fAdd (vS 2) (vT (dC (.int 1)))) (aCons (dBin fSub (vS 2) (vT (dC (.int 1)))) (aCons (dC (.int 16)) (aCons (dC (.int 17)) (aCons (dUn fNeg (vT (dC (.int 1)))) (aCons (dC (.str (Str.ofString "2"))) (aCons (dTup (aCons (dC (.int 2)) aNil)) (aCons (dTup aNil) aNil))))))))))) [11] (tName 11) dYes e3__law_faults))) (tName 8))
      (EF P0 P1 n at' w L U s7 (.v (.lst (F.map O.d))) (.v (.d (.int wl))) (.v (.lst ((rows U wl).map O.d)))) =
    .nx (EF P0 P1 n at' w L U s7 (.v (.lst ((F ++ (rows U wl).map (fun x => D.tup [.int n, .tup L, x]) ++ (firsts n).map (fun x => D.tup [x, .tup L, .tup U])).map O.d))) (.v (.d (.int wl))) (.v (.d (.lst (rows U wl))))) := by
  have z3 : (3 : Nat) ≤ sizeLine := by decide
  have lc1 := lc_m (vs := [11]) (t := tName 11) (el := e2__law_faults) (f := fun x : D => x) (g := fun x => O.d (.tup [.int n, .tup L, x])) (e := EF P0 P1 n at' w L U s7 (.v (.lst (F.map O.d))) (.v (.d (.int wl))) (.v (.d (.lst (rows U wl))))) (rows U wl) (by show 13 ≤ 2000; omega) fun x _ => by
    generalize rows U wl = M at *
    exact ⟨[P0, P1, .v (.d (.int n)), .v (.d (.tup L)), .v (.d (.tup U)), .v (.d (.int at')), .v (.d (.int w)), s7, .v (.lst (F.map O.d)), .v (.d (.int wl)), .v (.d (.lst M)), .v (.d x)], by simp, by simp [z3], rfl⟩
  have lc2 := lc_m (vs := [11]) (t := tName 11) (el := e3__law_faults) (f := fun x : D => x) (g := fun x => O.d (.tup [x, .tup L, .tup U])) (e := EF P0 P1 n at' w L U s7 (.v (.lst (F.map O.d))) (.v (.d (.int wl))) (.v (.d (.lst (rows U wl))))) (firsts n) (by show 9 ≤ 2000; omega) fun x _ => by
    generalize rows U wl = M at *
    exact ⟨[P0, P1, .v (.d (.int n)), .v (.d (.tup L)), .v (.d (.tup U)), .v (.d (.int at')), .v (.d (.int w)), s7, .v (.lst (F.map O.d)), .v (.d (.int wl)), .v (.d (.lst M)), .v (.d x)], by simp, by simp [z3], rfl⟩
  rw [List.map_id'] at lc1 lc2
  have em1 : ((rows U wl).map fun x => O.d (.tup [.int n, .tup L, x])) = ((rows U wl).map fun x => D.tup [.int n, .tup L, x]).map O.d := by rw [List.map_map]; rfl
  have em2 : ((firsts n).map fun x => O.d (.tup [x, .tup L, .tup U])) = ((firsts n).map fun x => D.tup [x, .tup L, .tup U]).map O.d := by rw [List.map_map]; rfl
  rw [em1] at lc1
  rw [em2] at lc2
  have ca1 : fAdd (.lst (F.map O.d)) (.lst (((rows U wl).map fun x => D.tup [.int n, .tup L, x]).map O.d)) = _ := ls_cat (by rw [List.length_map]; show F.length + 13 ≤ _; omega)
  have ca2 : fAdd (.lst ((F ++ (rows U wl).map fun x => D.tup [.int n, .tup L, x]).map O.d)) (.lst (((firsts n).map fun x => D.tup [x, .tup L, .tup U]).map O.d)) = _ := ls_cat (by rw [List.length_append, List.length_map, List.length_map]; show F.length + 13 + 9 ≤ _; omega)
  have fz : fzs ((rows U wl).map O.d) = rows U wl := fzs_leaf _
  have ef : firsts n = [.int 0, .int (n + 1), .int (n - 1), .int 16, .int 17, .int (-1), .str (Str.ofString "2"), .tup [.int 2], .tup []] := rfl
  have z9 : (9 : Nat) ≤ sizeLine := by decide
  have z1 : (1 : Nat) ≤ sizeLine := by decide
  generalize (F ++ (rows U wl).map (fun x => D.tup [.int n, .tup L, x]) ++ (firsts n).map (fun x => D.tup [x, .tup L, .tup U])).map O.d = R3 at *
  generalize (F ++ (rows U wl).map fun x => D.tup [.int n, .tup L, x]).map O.d = R2 at *
  generalize ((rows U wl).map fun x => D.tup [.int n, .tup L, x]).map O.d = R1 at *
  generalize ((firsts n).map fun x => D.tup [x, .tup L, .tup U]).map O.d = R0 at *
  generalize F.map O.d = FO at *
  rw [ef] at lc2
  generalize (rows U wl).map O.d = MO at *
  generalize rows U wl = M at *
  simp [fz, lc1, ca1, z9, z1, lc2, ca2]
theorem lf_lins (hL : L.length ≤ 100) (F : List D) (hF : F.length ≤ 500) (s7 s9 s10 : Sl) : (sAsg (dBin fAdd (vS 8) (vT (dLc (iAny (dTup (aCons (dTup aNil) (aCons (dC (.str (Str.ofString "add"))) (aCons (dC (.int 0)) (aCons (dUn fRevT (vS 3)) (aCons (dSl fSl (vS 3) (oSome (vT (dC (.int 1)))) oNone) (aCons (dBin fAdd (vS 3) (vS 3)) (aCons (dTup (aCons (dVar 3) aNil)) aNil))))))))) [11] (tName 11) dYes e4__law_faults))) (tName 8))
      (EF P0 P1 n at' w L U s7 (.v (.lst (F.map O.d))) s9 s10) =
    .nx (EF P0 P1 n at' w L U s7 (.v (.lst ((F ++ (lins L).map (fun x => D.tup [.int n, x, .tup U])).map O.d))) s9 s10) := by
  have z3 : (3 : Nat) ≤ sizeLine := by decide
  have lc1 := lc_m (vs := [11]) (t := tName 11) (el := e4__law_faults) (f := fun x : D => x) (g := fun x => O.d (.tup [.int n, x, .tup U])) (e := EF P0 P1 n at' w L U s7 (.v (.lst (F.map O.d))) s9 s10) (lins L) (by show 7 ≤ 2000; omega) fun x _ => by
    exact ⟨[P0, P1, .v (.d (.int n)), .v (.d (.tup L)), .v (.d (.tup U)), .v (.d (.int at')), .v (.d (.int w)), s7, .v (.lst (F.map O.d)), s9, s10, .v (.d x)], by simp, by simp [z3], rfl⟩
  rw [List.map_id'] at lc1
  have em1 : ((lins L).map fun x => O.d (.tup [.int n, x, .tup U])) = ((lins L).map fun x => D.tup [.int n, x, .tup U]).map O.d := by rw [List.map_map]; rfl
  rw [em1] at lc1
  have ca1 : fAdd (.lst (F.map O.d)) (.lst (((lins L).map fun x => D.tup [.int n, x, .tup U]).map O.d)) = _ := ls_cat (by rw [List.length_map]; show F.length + 7 ≤ _; omega)
  have ef : lins L = [.tup [], .str (Str.ofString "add"), .int 0, .tup L.reverse, .tup (L.drop 1), .tup (L ++ L), .tup [.tup L]] := rfl
  have rv : fRevT (.d (.tup L)) = some (.d (.tup L.reverse)) := rfl
  have sl : fSl (.d (.tup L)) (some 1) none = some (.d (.tup (L.drop 1))) := sl_tf (j := 1)
  have cl : fAdd (.d (.tup L)) (.d (.tup L)) = some (.d (.tup (L ++ L))) := tp_cat (by omega)
  have z7 : (7 : Nat) ≤ sizeLine := by decide
  have z1 : (1 : Nat) ≤ sizeLine := by decide
  generalize (F ++ (lins L).map (fun x => D.tup [.int n, x, .tup U])).map O.d = R3 at *
  generalize ((lins L).map fun x => D.tup [.int n, x, .tup U]).map O.d = R1 at *
  generalize F.map O.d = FO at *
  rw [ef] at lc1
  generalize L.reverse = LR at *
  generalize L.drop 1 = LD at *
  generalize L ++ L = LL at *
  simp [rv, sl, cl, z7, z1, lc1, ca1]
theorem lf_last (S : D) (hS : S = .tup [.int n, .tup L, .tup U]) (F : List D) (hF : F.length ≤ 500) (s7 s9 s10 : Sl) : (sRet (dBin fAdd (vS 8) (vT (dLst (aCons (dSl fSl (vS 1) oNone (oSome (vT (dC (.int 2))))) (aCons (dBin fAdd (vS 1) (vT (dTup (aCons (dTup aNil) aNil)))) (aCons (dTup aNil) (aCons (dC (.int 0)) (aCons (dC (.str (Str.ofString "sheet"))) (aCons (dC (.str (Str.ofString "abc"))) (aCons (dTup (aCons (dVar 1) aNil)) (aCons (dVar 3) (aCons (dTup (aCons (dVar 3) (aCons (dVar 2) (aCons (dVar 4) aNil)))) aNil)))))))))))))
      (EF P0 (.p (.d S)) n at' w L U s7 (.v (.lst (F.map O.d))) s9 s10) = .rt (.lst ((F ++ lasts n L U).map O.d)) (EF P0 (.p (.d S)) n at' w L U s7 (.v (.lst (F.map O.d))) s9 s10) := by
  have z9 : (9 : Nat) ≤ sizeLine := by decide
  have z1 : (1 : Nat) ≤ sizeLine := by decide
  have z3 : (3 : Nat) ≤ sizeLine := by decide
  have sl : fSl (.d S) none (some 2) = some (.d (.tup [.int n, .tup L])) := by rw [hS]; exact sl_tt (j := 2)
  have ca : fAdd (.d S) (.d (.tup [.tup []])) = some (.d (.tup [.int n, .tup L, .tup U, .tup []])) := by rw [hS]; exact tp_cat (by simp)
  have ca1 : fAdd (.lst (F.map O.d)) (.lst [.d (.tup [.int n, .tup L]), .d (.tup [.int n, .tup L, .tup U, .tup []]), .d (.tup []), .d (.int 0), .d (.str (Str.ofString "sheet")), .d (.str (Str.ofString "abc")), .d (.tup [S]), .d (.tup L), .d (.tup [.tup L, .int n, .tup U])]) = some (.lst ((F ++ lasts n L U).map O.d)) := by
    rw [hS]
    exact ls_cat (ys := lasts n L U) (by show F.length + 9 ≤ _; omega)
  generalize (F ++ lasts n L U).map O.d = R3 at *
  generalize F.map O.d = FO at *
  simp [sl, ca, z9, z1, z3, ca1]
end
end K01
set_option maxHeartbeats 8000000
namespace K01
open PySem L2 MX LA
theorem lf_cat (P0 P1 : Sl) (n at' w : Int) (L U F ys : List D) (h : F.length + ys.length ≤ 1000) (s7 s9 s10 : Sl) {d : En → Rs O} (hd : d (EF P0 P1 n at' w L U s7 (.v (.lst (F.map O.d))) s9 s10) = .ok (.lst (ys.map O.d)) (EF P0 P1 n at' w L U s7 (.v (.lst (F.map O.d))) s9 s10)) :
    (sAsg (dBin fAdd (vS 8) (vT d)) (tName 8)) (EF P0 P1 n at' w L U s7 (.v (.lst (F.map O.d))) s9 s10) = .nx (EF P0 P1 n at' w L U s7 (.v (.lst ((F ++ ys).map O.d))) s9 s10) := by
  have ca1 : fAdd (.lst (F.map O.d)) (.lst (ys.map O.d)) = some (.lst ((F ++ ys).map O.d)) := ls_cat (by omega)
  generalize (F ++ ys).map O.d = R at *
  generalize F.map O.d = FO at *
  generalize ys.map O.d = YO at *
  simp [hd, ca1]
theorem v_lfaults (c : List Int) (S : Sx) (h0 : 0 ≤ S.s0) (s : Sh) (hs : ShOk s) (hb : ShBig s) : ∃ (S' : Sx) (fs : List D), 0 ≤ S'.s0 ∧ (∀ y ∈ fs, pvB 8 y = true) ∧ fs.length = 80 ∧
    d__law_faults [stO c S, .d (shD s)] = .ok (.lst (fs.map O.d)) [some (stO c S'), some (.d (shD s))] := by
  have n16 := hs.n16
  have l60 := hs.l60
  have o8 := hs.o8
  obtain ⟨S1, r, g1, r0, r1, kt⟩ := v_take c S h0 (lim := ((s.ls.length : Nat) : Int) + 1) (by omega) (by omega)
  obtain ⟨a, rfl⟩ := Int.eq_ofNat_of_zero_le r0
  have pl := lines_pv s hs hb
  have po := outs_pv s hs
  have lL : (s.ls.map lnD).length = s.ls.length := List.length_map _
  have lU : (s.os.map di).length = s.os.length := List.length_map _
  have eS : shD s = .tup [.int (s.n : Int), .tup (s.ls.map lnD), .tup (s.os.map di)] := rfl
  refine ⟨S1, faults (s.n : Int) (s.ls.map lnD) (s.os.map di) a ((s.n : Int) + (a : Int)) ((s.n : Int) + ((s.ls.length : Nat) : Int)), g1, faults_pv pl (by omega) po (by omega) (by omega) (by omega) (by omega) (by omega) (by omega) (by omega), faults_len _ _ _ _ _ _, ?_⟩
  have lU0 : fLenU [.d (.tup (s.ls.map lnD))] = some (.d (.int (s.ls.length : Nat))) := by rw [y13, List.length_map]
  have kt : d__law_take [stO c S, .d (.int (((s.ls.length : Nat) : Int) + 1))] = .ok (.d (.int (a : Int))) [some (stO c S1), some (.d (.int (((s.ls.length : Nat) : Int) + 1)))] := kt
  obtain ⟨so, es⟩ : ∃ so, stO c S = .lst so := ⟨_, rfl⟩
  obtain ⟨so1, es1⟩ : ∃ so, stO c S1 = .lst so := ⟨_, rfl⟩
  rw [es, es1] at kt
  rw [es, es1]
  generalize s.ls.map lnD = L at *
  generalize s.os.map di = U at *
  generalize hS : shD s = SD at *
  have L1 : L.length ≤ 100 := by omega
  have U1 : U.length ≤ 100 := by omega
  generalize hwl : (s.n : Int) + ((s.ls.length : Nat) : Int) = wl at *
  generalize ((s.ls.length : Nat) : Int) = m at *
  generalize hw : (s.n : Int) + (a : Int) = w at *
  have st1 := lf_made (.p (.lst so1)) (.p (.d SD)) (s.n : Int) w L U a L1 .no .no
  generalize (s.n : Int) = n at *
  generalize hR : faults n L U a w wl = R
  obtain ⟨F1, ha⟩ : ∃ F1, (made w).map (fun x => D.tup [.int n, .tup (L.take a ++ [x] ++ L.drop a), .tup U]) = F1 := ⟨_, rfl⟩
  rw [ha] at st1
  obtain ⟨F2, hF2⟩ : ∃ F2, F1 ++ (rows U wl).map (fun x => D.tup [.int n, .tup L, x]) ++ (firsts n).map (fun x => D.tup [x, .tup L, .tup U]) = F2 := ⟨_, rfl⟩
  have st2 := lf_more (.p (.lst so1)) (.p (.d SD)) n (a : Int) w wl L U F1 (by rw [← ha, List.length_map, made_len]; omega) (.v (.d (.lst (made w))))
  rw [hF2] at st2
  refine' R__law_faults (e := _) ?_ ?_
  rotate_left 1
  · unfold b__law_faults
    refine seqA (o := .nx [.p (.lst so), .p (.d SD), .v (.d (.int n)), .v (.d (.tup L)), .v (.d (.tup U)), .no, .no, .no, .no, .no, .no, .no]) (by rw [eS]; rfl) ?_
    simp only [MX.z7]
    refine seqA (o := .nx [.p (.lst so1), .p (.d SD), .v (.d (.int n)), .v (.d (.tup L)), .v (.d (.tup U)), .v (.d (.int (a : Int))), .no, .no, .no, .no, .no, .no]) (by
      generalize (a : Int) = a' at *
      simp [lU0, kt, -MX.y13]) ?_
    simp only [MX.z7]
    refine seqA (o := .nx (EF (.p (.lst so1)) (.p (.d SD)) n (a : Int) w L U .no .no .no .no)) (by
      generalize (a : Int) = a' at *
      simp [hw]) ?_
    simp only [MX.z7]
    refine seqA (o := .nx (EF (.p (.lst so1)) (.p (.d SD)) n (a : Int) w L U (.v (.lst ((md1 w).map O.d))) .no .no .no)) rfl ?_
    simp only [MX.z7]
    refine seqA (o := .nx (EF (.p (.lst so1)) (.p (.d SD)) n (a : Int) w L U (.v (.lst ((md1 w ++ md2 w).map O.d))) .no .no .no)) rfl ?_
    simp only [MX.z7]
    refine seqA (o := .nx (EF (.p (.lst so1)) (.p (.d SD)) n (a : Int) w L U (.v (.lst ((md1 w ++ md2 w ++ md3).map O.d))) .no .no .no)) rfl ?_
    simp only [MX.z7]
    refine seqA (o := .nx (EF (.p (.lst so1)) (.p (.d SD)) n (a : Int) w L U (.v (.lst ((made w).map O.d))) .no .no .no)) rfl ?_
    simp only [MX.z7]
    refine seqA st1 ?_
    simp only [MX.z7]
    have f1 : F1.length = 35 := by rw [← ha, List.length_map, made_len]
    refine seqA (o := .nx (EF (.p (.lst so1)) (.p (.d SD)) n (a : Int) w L U (.v (.d (.lst (made w)))) (.v (.lst (F1.map O.d))) (.v (.d (.int wl))) .no)) (by
      generalize (a : Int) = a' at *
      generalize F1.map O.d = FO at *
      generalize made w = M at *
      simp [lU0, hwl, -MX.y13]) ?_
    simp only [MX.z7]
    refine seqA (lf_rows (.p (.lst so1)) (.p (.d SD)) n (a : Int) w wl L U U1 _ _) ?_
    simp only [MX.z7]
    refine seqA st2 ?_
    simp only [MX.z7]
    have f2 : F2.length = 57 := by
      rw [← hF2, List.length_append, List.length_append, List.length_map, List.length_map, f1]; rfl
    refine seqA (lf_cat (.p (.lst so1)) (.p (.d SD)) n (a : Int) w L U F2 fixed (by rw [f2]; decide) _ _ _ rfl) ?_
    simp only [MX.z7]
    refine seqA (lf_lins (.p (.lst so1)) (.p (.d SD)) n (a : Int) w L U L1 (F2 ++ fixed) (by rw [List.length_append, f2]; decide) _ _ _) ?_
    simp only [MX.z7]
    have hl := lf_last (.p (.lst so1)) n (a : Int) w L U SD eS (F2 ++ fixed ++ (lins L).map (fun x => D.tup [.int n, x, .tup U])) (by rw [List.length_append, List.length_append, List.length_map, f2]; show 57 + 7 + 7 ≤ 500; omega) (.v (.d (.lst (made w)))) (.v (.d (.int wl))) (.v (.d (.lst (rows U wl))))
    refine Eq.trans hl ?_
    rw [← hR]
    unfold faults
    rw [ha, hF2]
  · rfl
end K01
set_option maxHeartbeats 8000000
namespace K01
open PySem L2 MX LA
theorem v_pickL (c : List Int) (S : Sx) (h0 : 0 ≤ S.s0) (z : List Int) (hz : 0 < z.length) (hz2 : z.length ≤ 1000) : ∃ (S' : Sx) (y : Int), 0 ≤ S'.s0 ∧ y ∈ z ∧ d__law_pick [stO c S, ilO z] = .ok (.d (.int y)) [some (stO c S'), some (ilO z)] := by
  obtain ⟨S', d, hd, g, k⟩ := v_pick c S h0 (Y := ilO z) (n := z.length) (by unfold ilO; rw [y14, List.length_map]) hz (by omega)
  exact ⟨S', gi z d, g, List.mem_of_getElem? (gi_at hd), k _ (ix_ilO hd)⟩
theorem v_pickD (c : List Int) (S : Sx) (h0 : 0 ≤ S.s0) (W : List D) (hz : 0 < W.length) (hz2 : W.length ≤ 1000) : ∃ (S' : Sx) (y : D), 0 ≤ S'.s0 ∧ y ∈ W ∧ d__law_pick [stO c S, .d (.lst W)] = .ok (.d y) [some (stO c S'), some (.d (.lst W))] := by
  obtain ⟨S', d, hd, g, k⟩ := v_pick c S h0 (Y := .d (.lst W)) (n := W.length) y12 hz (by omega)
  exact ⟨S', W[d], g, List.getElem_mem hd, k _ (ix_ls (List.getElem?_eq_getElem hd))⟩
theorem v_pickO (c : List Int) (S : Sx) (h0 : 0 ≤ S.s0) (W : List D) (hz : 0 < W.length) (hz2 : W.length ≤ 1000) : ∃ (S' : Sx) (y : D), 0 ≤ S'.s0 ∧ y ∈ W ∧ d__law_pick [stO c S, .lst (W.map O.d)] = .ok (.d y) [some (stO c S'), some (.lst (W.map O.d))] := by
  obtain ⟨S', d, hd, g, k⟩ := v_pick c S h0 (Y := .lst (W.map O.d)) (n := W.length) (by rw [y14, List.length_map]) hz (by omega)
  exact ⟨S', W[d], g, List.getElem_mem hd, k _ (ix_lo (List.getElem?_eq_getElem hd))⟩
def lbig (l : Ln) : Prop := ∀ a i b, l = .sc a i b → big a ∧ big b
theorem sh_turn (c : List Int) (S : Sx) (h0 : 0 ≤ S.s0) {n k : Nat} (hn : 0 < n + k) (hz : n + k ≤ 900) (W : List D) (hW : ∀ x ∈ W, x = sAdd ∨ x = sTim ∨ x = sSca) (W0 : 0 < W.length) (W1 : W.length ≤ 100) (os : List O) (ho : os.length ≤ 900) (P2 s6 s7 s8 s9 s10 : Sl)
    (h6 : s6.pinned = false) (h7 : s7.pinned = false) (h8 : s8.pinned = false) (h9 : s9.pinned = false) : ∃ (S' : Sx) (l : Ln) (t6 t7 t8 t9 : Sl), 0 ≤ S'.s0 ∧ lok (n + k) l ∧ lbig l ∧ t6.pinned = false ∧ t7.pinned = false ∧ t8.pinned = false ∧ t9.pinned = false ∧
    l1__law_sheet [.p (stO c S), .p (.d (.int (n : Int))), P2, .p (.d (.lst W)), .v (.lst os), .v (.d (.int (k : Int))), s6, s7, s8, s9, s10] = .nx [.p (stO c S'), .p (.d (.int (n : Int))), P2, .p (.d (.lst W)), .v (.lst (os ++ [.d (lnD l)])), .v (.d (.int (k : Int))), t6, t7, t8, t9, s10] := by
  obtain ⟨S1, r1, g1, a1, b1, k1⟩ := v_take c S h0 (lim := (n : Int) + (k : Int)) (by omega) (by omega)
  obtain ⟨S2, r2, g2, a2, b2, k2⟩ := v_take c S1 g1 (lim := (n : Int) + (k : Int)) (by omega) (by omega)
  obtain ⟨S3, j, g3, m3, k3⟩ := v_pickL c S2 g2 [r2, (n : Int) + (k : Int) - 1] (by simp) (by simp)
  have hj : 0 ≤ j ∧ j < (n : Int) + (k : Int) := by
    simp only [List.mem_cons, List.not_mem_nil, or_false] at m3
    rcases m3 with rfl | rfl
    · exact ⟨a2, b2⟩
    · omega
  obtain ⟨S4, wd, g4, m4, k4⟩ := v_pickD c S3 g3 W W0 (by omega)
  have hoz : os.length < sizeLine := Nat.lt_of_le_of_lt ho (by decide)
  have z2 : (2 : Nat) ≤ sizeLine := by decide
  have z3 : (3 : Nat) ≤ sizeLine := by decide
  have z4 : (4 : Nat) ≤ sizeLine := by decide
  have k3 : d__law_pick [stO c S2, .lst [.d (.int r2), .d (.int ((n : Int) + (k : Int) - 1))]] = .ok (.d (.int j)) [some (stO c S3), some (.lst [.d (.int r2), .d (.int ((n : Int) + (k : Int) - 1))])] := k3
  obtain ⟨j', rfl⟩ := Int.eq_ofNat_of_zero_le hj.1
  obtain ⟨i', rfl⟩ := Int.eq_ofNat_of_zero_le a1
  have hw := hW wd m4
  by_cases hs : wd = sSca
  · subst hs
    obtain ⟨S5, x1, g5, bx1, k5⟩ := v_number c S4 g4
    obtain ⟨S6, x2, g6, bx2, k6⟩ := v_number c S5 g5
    refine ⟨S6, .sc x1 j' x2, .v (.d (.int ((n : Int) + (k : Int)))), .v (.d (.int (i' : Int))), .v (.d (.int (j' : Int))), .v (.d sSca), g6, (show j' < n + k by omega), fun a i b e => (by cases e; exact ⟨bx1, bx2⟩), rfl, rfl, rfl, rfl, ?_⟩
    · have el : lnD (.sc x1 j' x2) = .tup [.str (Str.ofString "scale"), .int x1, .int (j' : Int), .int x2] := rfl
      rw [el]
      have e3 := se3
      unfold sSca at *
      obtain ⟨so, es⟩ : ∃ so, stO c S = .lst so := ⟨_, rfl⟩
      obtain ⟨so1, es1⟩ : ∃ so, stO c S1 = .lst so := ⟨_, rfl⟩
      obtain ⟨so2, es2⟩ : ∃ so, stO c S2 = .lst so := ⟨_, rfl⟩
      obtain ⟨so3, es3⟩ : ∃ so, stO c S3 = .lst so := ⟨_, rfl⟩
      obtain ⟨so4, es4⟩ : ∃ so, stO c S4 = .lst so := ⟨_, rfl⟩
      obtain ⟨so5, es5⟩ : ∃ so, stO c S5 = .lst so := ⟨_, rfl⟩
      obtain ⟨so6, es6⟩ : ∃ so, stO c S6 = .lst so := ⟨_, rfl⟩
      rw [es, es1] at k1
      rw [es1, es2] at k2
      rw [es2, es3] at k3
      rw [es3, es4] at k4
      rw [es4, es5] at k5
      rw [es5, es6] at k6
      rw [es, es6]
      generalize (i' : Int) = i at *
      generalize (j' : Int) = j at *
      generalize (k : Int) = kk at *
      generalize hnk : (n : Int) + kk = w at *
      generalize (n : Int) = nn at *
      refine seqA (by simp [hnk, h6] <;> rfl) ?_
      simp only [MX.z7]
      refine seqA (by simp [k1, k2, k3, z_late, z2, h7, h8] <;> rfl) ?_
      simp only [MX.z7]
      refine seqA (by simp [k4, h9] <;> rfl) ?_
      simp only [MX.z7]
      exact Eq.trans (by simp [e3, k5, k6, z4, fAppend, hoz] <;> rfl) rfl
  · obtain ⟨S5, i2, g5, m5, k5⟩ := v_pickL c S4 g4 [(j' : Int), (j' : Int), (i' : Int)] (by simp) (by simp)
    have hi2 : 0 ≤ i2 ∧ i2 < (n : Int) + (k : Int) := by
      simp only [List.mem_cons, List.not_mem_nil, or_false] at m5
      rcases m5 with rfl | rfl | rfl <;> omega
    obtain ⟨i2', rfl⟩ := Int.eq_ofNat_of_zero_le hi2.1
    have k5 : d__law_pick [stO c S4, .lst [.d (.int (j' : Int)), .d (.int (j' : Int)), .d (.int (i' : Int))]] = .ok (.d (.int (i2' : Int))) [some (stO c S5), some (.lst [.d (.int (j' : Int)), .d (.int (j' : Int)), .d (.int (i' : Int))])] := k5
    obtain ⟨l, hl, hb, el, e3⟩ : ∃ l : Ln, lok (n + k) l ∧ lbig l ∧ lnD l = .tup [wd, .int (i' : Int), .int (i2' : Int)] ∧ fEq (.d wd) (.d sSca) = some (.d (.bl false)) := by
      rcases hw with rfl | rfl | rfl
      · exact ⟨.ad i' i2', ⟨by omega, by omega⟩, fun a i b e => (by cases e), rfl, se1⟩
      · exact ⟨.ti i' i2', ⟨by omega, by omega⟩, fun a i b e => (by cases e), rfl, se2⟩
      · exact absurd rfl hs
    refine ⟨S5, l, .v (.d (.int ((n : Int) + (k : Int)))), .v (.d (.int (i' : Int))), .v (.d (.int (j' : Int))), .v (.d wd), g5, hl, hb, rfl, rfl, rfl, rfl, ?_⟩
    · rw [el]
      unfold sSca at *
      obtain ⟨so, es⟩ : ∃ so, stO c S = .lst so := ⟨_, rfl⟩
      obtain ⟨so1, es1⟩ : ∃ so, stO c S1 = .lst so := ⟨_, rfl⟩
      obtain ⟨so2, es2⟩ : ∃ so, stO c S2 = .lst so := ⟨_, rfl⟩
      obtain ⟨so3, es3⟩ : ∃ so, stO c S3 = .lst so := ⟨_, rfl⟩
      obtain ⟨so4, es4⟩ : ∃ so, stO c S4 = .lst so := ⟨_, rfl⟩
      obtain ⟨so5, es5⟩ : ∃ so, stO c S5 = .lst so := ⟨_, rfl⟩
      rw [es, es1] at k1
      rw [es1, es2] at k2
      rw [es2, es3] at k3
      rw [es3, es4] at k4
      rw [es4, es5] at k5
      rw [es, es5]
      generalize (i' : Int) = i at *
      generalize (j' : Int) = j at *
      generalize (i2' : Int) = i2 at *
      generalize (k : Int) = kk at *
      generalize hnk : (n : Int) + kk = w at *
      generalize (n : Int) = nn at *
      refine seqA (by simp [hnk, h6] <;> rfl) ?_
      simp only [MX.z7]
      refine seqA (by simp [k1, k2, k3, z_late, z2, h7, h8] <;> rfl) ?_
      simp only [MX.z7]
      refine seqA (by simp [k4, h9] <;> rfl) ?_
      simp only [MX.z7]
      exact Eq.trans (by simp [e3, k5, z3, fAppend, hoz] <;> rfl) rfl
end K01
set_option maxHeartbeats 8000000
namespace K01
open PySem L2 MX LA
theorem lsok_app : ∀ (ls : List Ln) (n : Nat) (l : Ln), lsok n ls → lok (n + ls.length) l → lsok n (ls ++ [l])
  | [], n, l, _, h => ⟨h, trivial⟩
  | l0 :: ls, n, l, h, hl => ⟨h.1, lsok_app ls (n + 1) l h.2 (by
      have e : n + (l0 :: ls).length = n + 1 + ls.length := by rw [List.length_cons]; omega
      rw [← e]; exact hl)⟩
theorem sh_loop (c : List Int) {n : Nat} (hn : 0 < n) (hz : n ≤ 100) (W : List D) (hW : ∀ x ∈ W, x = sAdd ∨ x = sTim ∨ x = sSca) (W0 : 0 < W.length) (W1 : W.length ≤ 100) (P2 s10 : Sl) :
    ∀ (m k : Nat) (S : Sx) (ls : List Ln) (s5 s6 s7 s8 s9 : Sl), 0 ≤ S.s0 → ls.length = k → lsok n ls → (∀ l ∈ ls, lbig l) → k + m ≤ 60 → s5.pinned = false → s6.pinned = false → s7.pinned = false → s8.pinned = false → s9.pinned = false →
    ∃ (S' : Sx) (ls' : List Ln) (t5 t6 t7 t8 t9 : Sl), 0 ≤ S'.s0 ∧ ls'.length = k + m ∧ lsok n ls' ∧ (∀ l ∈ ls', lbig l) ∧ t5.pinned = false ∧ t6.pinned = false ∧ t7.pinned = false ∧ t8.pinned = false ∧ t9.pinned = false ∧
      sForL (tName 5) l1__law_sheet (idx k m) [.p (stO c S), .p (.d (.int (n : Int))), P2, .p (.d (.lst W)), .v (.lst (ls.map fun l => .d (lnD l))), s5, s6, s7, s8, s9, s10] = .nx [.p (stO c S'), .p (.d (.int (n : Int))), P2, .p (.d (.lst W)), .v (.lst (ls'.map fun l => .d (lnD l))), t5, t6, t7, t8, t9, s10]
  | 0, k, S, ls, s5, s6, s7, s8, s9, h0, hl, hs, hb, _, h5, h6, h7, h8, h9 => ⟨S, ls, s5, s6, s7, s8, s9, h0, hl, hs, hb, h5, h6, h7, h8, h9, by rw [idx_0]; exact u1⟩
  | m + 1, k, S, ls, s5, s6, s7, s8, s9, h0, hl, hs, hb, hk, h5, h6, h7, h8, h9 => by
    obtain ⟨S1, l, u6, u7, u8, u9, g1, okl, bl, g6, g7, g8, g9, tu⟩ := sh_turn c S h0 (n := n) (k := k) (by omega) (by omega) W hW W0 W1 (ls.map fun l => O.d (lnD l)) (by rw [List.length_map]; omega) P2 s6 s7 s8 s9 s10 h6 h7 h8 h9
    have em : (ls.map fun l => O.d (lnD l)) ++ [.d (lnD l)] = (ls ++ [l]).map fun l => O.d (lnD l) := by rw [List.map_append]; rfl
    rw [em] at tu
    obtain ⟨S', ls', t5, t6, t7, t8, t9, q0, q1, q2, q3, q5, q6, q7, q8, q9, lp⟩ := sh_loop c hn hz W hW W0 W1 P2 s10 m (k + 1) S1 (ls ++ [l]) (.v (.d (.int (k : Int)))) u6 u7 u8 u9 g1 (by rw [List.length_append, List.length_singleton, hl]) (lsok_app ls n l hs (by rw [hl]; exact okl)) (fun y hy => by
      rcases List.mem_append.mp hy with hy | hy
      · exact hb y hy
      · rw [List.mem_singleton.mp hy]; exact bl) (by omega) rfl g6 g7 g8 g9
    refine ⟨S', ls', t5, t6, t7, t8, t9, q0, by omega, q2, q3, q5, q6, q7, q8, q9, ?_⟩
    rw [idx_s, ← lp]
    exact for_nx (e1 := [.p (stO c S), .p (.d (.int (n : Int))), P2, .p (.d (.lst W)), .v (.lst (ls.map fun l => .d (lnD l))), .v (.d (.int (k : Int))), s6, s7, s8, s9, s10]) (by simp [h5]) tu
theorem sh_outs (c : List Int) (S : Sx) (h0 : 0 ≤ S.s0) (n : Int) {w : Nat} (hw : 0 < w) (hw2 : w ≤ 900) (P2 P3 t7 t8 t9 : Sl) (LO : O) (m : Nat) (hm : m ≤ 10) :
    ∃ (S' : Sx) (os : List Nat), 0 ≤ S'.s0 ∧ os.length = m ∧ (∀ o ∈ os, o < w) ∧
      lcL [5] (tName 5) dYes e1__law_sheet (idx 0 m) [] [.p (stO c S), .p (.d (.int n)), P2, P3, .v LO, .no, .v (.d (.int (w : Int))), t7, t8, t9, .no] = .ok (.lst (os.map fun o => .d (di o))) [.p (stO c S'), .p (.d (.int n)), P2, P3, .v LO, .no, .v (.d (.int (w : Int))), t7, t8, t9, .no] := by
  obtain ⟨os, S', k, g, hl, hq⟩ := lc_st (vs := [5]) (t := tName 5) (el := e1__law_sheet) (f := fun o : Nat => O.d (di o)) (E := fun S : Sx => [.p (stO c S), .p (.d (.int n)), P2, P3, .v LO, .no, .v (.d (.int (w : Int))), t7, t8, t9, .no]) (I := fun S : Sx => 0 ≤ S.s0) (Q := fun o => o < w) (idx 0 m) (by rw [idx_len]; omega) S h0 fun d _ S h0 => by
    obtain ⟨S1, r1, g1, a1, b1, k1⟩ := v_take c S h0 (lim := (w : Int)) (by omega) (by omega)
    obtain ⟨S2, j, g2, m2, k2⟩ := v_pickL c S1 g1 [r1, (w : Int) - 1] (by simp) (by simp)
    have hj : 0 ≤ j ∧ j < (w : Int) := by
      simp only [List.mem_cons, List.not_mem_nil, or_false] at m2
      rcases m2 with rfl | rfl <;> omega
    obtain ⟨j', rfl⟩ := Int.eq_ofNat_of_zero_le hj.1
    have k2 : d__law_pick [stO c S1, .lst [.d (.int r1), .d (.int ((w : Int) - 1))]] = .ok (.d (.int (j' : Int))) [some (stO c S2), some (.lst [.d (.int r1), .d (.int ((w : Int) - 1))])] := k2
    have z2 : (2 : Nat) ≤ sizeLine := by decide
    refine ⟨[.p (stO c S), .p (.d (.int n)), P2, P3, .v LO, .v (.d d), .v (.d (.int (w : Int))), t7, t8, t9, .no], [.p (stO c S2), .p (.d (.int n)), P2, P3, .v LO, .v (.d d), .v (.d (.int (w : Int))), t7, t8, t9, .no], j', S2, by simp, ?_, rfl, g2, by omega⟩
    obtain ⟨so, es⟩ : ∃ so, stO c S = .lst so := ⟨_, rfl⟩
    obtain ⟨so1, es1⟩ : ∃ so, stO c S1 = .lst so := ⟨_, rfl⟩
    obtain ⟨so2, es2⟩ : ∃ so, stO c S2 = .lst so := ⟨_, rfl⟩
    rw [es, es1] at k1
    rw [es1, es2] at k2
    rw [es, es2]
    unfold di
    generalize (j' : Int) = j at *
    generalize (w : Int) = ww at *
    simp [k1, k2, z_late, z2]
  exact ⟨S', os, g, by rw [hl, idx_len], hq, k⟩
end K01
set_option maxHeartbeats 8000000
namespace K01
open PySem L2 MX LA
abbrev SV : En → Rs O := dSave 5 (dLc (iOps (vCons (vT (dIf (dTst (dBin fGt (vS 6) (vT (dC (.int 0))))) (dCallF d__law_take [0, 1] (cCons (gName 0) (cCons (gVal (dC (.int 5))) cNil))) (dC (.int 0)))) vNil) gR1) [5] (tName 5) dYes e1__law_sheet)
theorem sh_sv (c : List Int) (S : Sx) (h0 : 0 ≤ S.s0) (n : Int) (w : Nat) (hw2 : w ≤ 900) (P2 P3 t5 t7 t8 t9 : Sl) (h5 : t5.pinned = false) (LO : O) :
    ∃ (S' : Sx) (os : List Nat), 0 ≤ S'.s0 ∧ os.length ≤ 4 ∧ (∀ o ∈ os, o < w) ∧
      SV [.p (stO c S), .p (.d (.int n)), P2, P3, .v LO, t5, .v (.d (.int (w : Int))), t7, t8, t9, .no] = .ok (.lst (os.map fun o => .d (di o))) [.p (stO c S'), .p (.d (.int n)), P2, P3, .v LO, t5, .v (.d (.int (w : Int))), t7, t8, t9, .no] := by
  by_cases hw : 0 < w
  · obtain ⟨S1, r, g1, a1, b1, k1⟩ := v_take c S h0 (lim := 5) (by omega) (by omega)
    obtain ⟨m, rfl⟩ := Int.eq_ofNat_of_zero_le a1
    obtain ⟨S2, os, g2, ol, oq, lc⟩ := sh_outs c S1 g1 n hw hw2 P2 P3 t7 t8 t9 LO m (by omega)
    refine ⟨S2, os, g2, by omega, oq, ?_⟩
    have g := gR1_n (m := m) (by omega)
    have hw' : (0 : Int) < (w : Int) := by omega
    obtain ⟨so, es⟩ : ∃ so, stO c S = .lst so := ⟨_, rfl⟩
    obtain ⟨so1, es1⟩ : ∃ so, stO c S1 = .lst so := ⟨_, rfl⟩
    obtain ⟨so2, es2⟩ : ∃ so, stO c S2 = .lst so := ⟨_, rfl⟩
    have k1 : d__law_take [stO c S, .d (.int 5)] = .ok (.d (.int (m : Int))) [some (stO c S1), some (.d (.int 5))] := k1
    rw [es, es1] at k1
    rw [es1, es2] at lc
    rw [es, es2]
    generalize os.map (fun o => O.d (di o)) = OO at *
    generalize idx 0 m = IX at *
    generalize (m : Int) = m' at *
    generalize (w : Int) = ww at *
    cases t5 with
    | no => simp [hw', k1, g, lc]
    | v o => simp [hw', k1, g, lc]
    | _ => cases h5
  · have hw0 : w = 0 := by omega
    subst hw0
    refine ⟨S, [], h0, by simp, fun o ho => (by cases ho), ?_⟩
    have g : gR1 [.d (.int 0)] = some [] := gR1_n (m := 0) (by omega)
    have hw' : ¬ (0 : Int) < ((0 : Nat) : Int) := by omega
    have ln : ∀ e : En, lcL [5] (tName 5) dYes e1__law_sheet [] [] e = .ok (.lst []) e := fun e => rfl
    obtain ⟨so, es⟩ : ∃ so, stO c S = .lst so := ⟨_, rfl⟩
    rw [es]
    generalize ((0 : Nat) : Int) = ww at *
    cases t5 with
    | no => simp [hw', g, ln]
    | v o => simp [hw', g, ln]
    | _ => cases h5
theorem v_lsheet (c : List Int) (S : Sx) (h0 : 0 ≤ S.s0) {n many : Nat} (hn : n ≤ 16) (hm : many ≤ 60) (W : List D) (hW : ∀ x ∈ W, x = sAdd ∨ x = sTim ∨ x = sSca) (W0 : 0 < W.length) (W1 : W.length ≤ 100) :
    ∃ (S' : Sx) (s : Sh), 0 ≤ S'.s0 ∧ ShOk s ∧ ShBig s ∧ d__law_sheet [stO c S, .d (.int (n : Int)), .d (.int (many : Int)), .d (.lst W)] = .ok (.d (shD s)) [some (stO c S'), some (.d (.int (n : Int))), some (.d (.int (many : Int))), some (.d (.lst W))] := by
  obtain ⟨m, S1, ls, t5, t6, t7, t8, t9, em, q0, q1, q2, q3, q5, q6, q7, q8, q9, lp⟩ : ∃ (m : Nat) (S1 : Sx) (ls : List Ln) (t5 t6 t7 t8 t9 : Sl), (m ≤ 60 ∧ (0 < (n : Int) → m = many) ∧ (¬ 0 < (n : Int) → m = 0)) ∧ 0 ≤ S1.s0 ∧ ls.length = m ∧ lsok n ls ∧ (∀ l ∈ ls, lbig l) ∧ t5.pinned = false ∧ t6.pinned = false ∧ t7.pinned = false ∧ t8.pinned = false ∧ t9.pinned = false ∧
      sForL (tName 5) l1__law_sheet (idx 0 m) [.p (stO c S), .p (.d (.int (n : Int))), .p (.d (.int (many : Int))), .p (.d (.lst W)), .v (.lst []), .no, .no, .no, .no, .no, .no] = .nx [.p (stO c S1), .p (.d (.int (n : Int))), .p (.d (.int (many : Int))), .p (.d (.lst W)), .v (.lst (ls.map fun l => .d (lnD l))), t5, t6, t7, t8, t9, .no] := by
    by_cases h : 0 < n
    · obtain ⟨S', ls', t5, t6, t7, t8, t9, q0, q1, q2, q3, q5, q6, q7, q8, q9, lp⟩ := sh_loop c h (by omega) W hW W0 W1 (.p (.d (.int (many : Int)))) .no many 0 S [] .no .no .no .no .no h0 rfl trivial (fun l hl => by cases hl) (by omega) rfl rfl rfl rfl rfl
      exact ⟨many, S', ls', t5, t6, t7, t8, t9, ⟨hm, fun _ => rfl, fun hh => absurd (by omega) hh⟩, q0, by omega, q2, q3, q5, q6, q7, q8, q9, lp⟩
    · exact ⟨0, S, [], .no, .no, .no, .no, .no, ⟨by omega, fun hh => absurd hh (by omega), fun _ => rfl⟩, h0, rfl, trivial, fun l hl => (by cases hl), rfl, rfl, rfl, rfl, rfl, by rw [idx_0]; exact u1⟩
  obtain ⟨S2, os, g2, ol, oq, sv⟩ := sh_sv c S1 q0 (n : Int) (n + ls.length) (by omega) (.p (.d (.int (many : Int)))) (.p (.d (.lst W))) t5 t7 t8 t9 q5 (.lst (ls.map fun l => .d (lnD l)))
  obtain ⟨S3, r, g3, a3, b3, k3⟩ := v_take c S2 g2 (lim := 2) (by omega) (by omega)
  obtain ⟨r', rfl⟩ := Int.eq_ofNat_of_zero_le a3
  have hok : ShOk ⟨n, ls, os ++ os.take r'⟩ := ⟨hn, by show ls.length ≤ 60; omega, by show (os ++ os.take r').length ≤ 8; rw [List.length_append, List.length_take]; omega, q2, fun o ho => by
    have ho : o ∈ os ++ os.take r' := ho
    show o < n + ls.length
    rcases List.mem_append.mp ho with ho | ho
    · exact oq o ho
    · exact oq o (List.mem_of_mem_take ho)⟩
  refine ⟨S3, ⟨n, ls, os ++ os.take r'⟩, g3, hok, fun a i b hx => q3 _ hx a i b rfl, ?_⟩
  have es3 : shD ⟨n, ls, os ++ os.take r'⟩ = .tup [.int (n : Int), .tup (ls.map lnD), .tup ((os ++ os.take r').map di)] := rfl
  rw [es3]
  have sl : fSl (.lst (os.map fun o => .d (di o))) none (some (r' : Int)) = some (.lst ((os.take r').map fun o => .d (di o))) := fSl_o (f := di)
  have ca : fAdd (.lst (os.map fun o => .d (di o))) (.lst ((os.take r').map fun o => .d (di o))) = some (.lst ((os ++ os.take r').map fun o => .d (di o))) := by
    have e : ∀ l : List Nat, (l.map fun o => O.d (di o)) = (l.map di).map O.d := fun l => by rw [List.map_map]; rfl
    rw [e, e, e, List.map_append]
    exact ls_cat (by rw [List.length_map, List.length_map, List.length_take]; omega)
  have tm1 := tup_m (l := ls) (f := lnD)
  have tm2 := tup_m (l := os ++ os.take r') (f := di)
  have lU : fLenU [.lst (ls.map fun l => .d (lnD l))] = some (.d (.int (ls.length : Nat))) := by rw [y14, List.length_map]
  have g := gR1_n (m := m) (by omega)
  have it : (iOps (vCons (vT (dIf (dTst (dBin fGt (vS 1) (vT (dC (.int 0))))) (dVar 2) (dC (.int 0)))) vNil) gR1) [.p (stO c S), .p (.d (.int (n : Int))), .p (.d (.int (many : Int))), .p (.d (.lst W)), .v (.lst []), .no, .no, .no, .no, .no, .no] = .ok (idx 0 m) [.p (stO c S), .p (.d (.int (n : Int))), .p (.d (.int (many : Int))), .p (.d (.lst W)), .v (.lst []), .no, .no, .no, .no, .no, .no] := by
    by_cases h : 0 < (n : Int)
    · have := em.2.1 h
      subst this
      generalize idx 0 m = IX at *
      generalize (m : Int) = m' at *
      generalize (n : Int) = n' at *
      simp [h, g]
    · have := em.2.2 h
      subst this
      have g : gR1 [.d (.int 0)] = some (idx 0 0) := g
      generalize idx 0 0 = IX at *
      generalize (n : Int) = n' at *
      simp [h, g]
  have hz : (n : Int) + (ls.length : Int) = ((n + ls.length : Nat) : Int) := by omega
  have k3 : d__law_take [stO c S2, .d (.int 2)] = .ok (.d (.int (r' : Int))) [some (stO c S3), some (.d (.int 2))] := k3
  obtain ⟨so, es⟩ : ∃ so, stO c S = .lst so := ⟨_, rfl⟩
  obtain ⟨so1, es1⟩ : ∃ so, stO c S1 = .lst so := ⟨_, rfl⟩
  obtain ⟨so2, es2⟩ : ∃ so, stO c S2 = .lst so := ⟨_, rfl⟩
  obtain ⟨so3, es3⟩ : ∃ so, stO c S3 = .lst so := ⟨_, rfl⟩
  rw [es, es1] at lp
  rw [es] at it
  rw [es1, es2] at sv
  rw [es2, es3] at k3
  rw [es, es3]
  have z0 : (0 : Nat) ≤ sizeLine := by decide
  have z3 : (3 : Nat) ≤ sizeLine := by decide
  generalize (os ++ os.take r').map di = T2 at *
  generalize (os ++ os.take r').map (fun o => O.d (di o)) = R2 at *
  generalize (os.take r').map (fun o => O.d (di o)) = R1 at *
  generalize os.map (fun o => O.d (di o)) = R0 at *
  generalize ls.map lnD = T1 at *
  generalize ls.map (fun l => O.d (lnD l)) = LO at *
  generalize ((n + ls.length : Nat) : Int) = w at *
  generalize (ls.length : Int) = m2 at *
  generalize (many : Int) = mm at *
  generalize (n : Int) = n' at *
  generalize (r' : Int) = rr at *
  generalize idx 0 m = IX at *
  refine' R__law_sheet (e := [.p (.lst so3), .p (.d (.int n')), .p (.d (.int mm)), .p (.d (.lst W)), .v (.lst LO), t5, .v (.d (.int w)), t7, t8, t9, .v (.lst R0)]) ?_ rfl
  unfold b__law_sheet
  refine seqA (by simp [z0] <;> rfl) ?_
  simp only [MX.z7]
  refine seqA (Eq.trans (sFor_ok it) lp) ?_
  simp only [MX.z7]
  refine seqA (by simp [lU, hz, q6, -MX.y14] <;> rfl) ?_
  simp only [MX.z7]
  refine seqA (o := .nx [.p (.lst so2), .p (.d (.int n')), .p (.d (.int mm)), .p (.d (.lst W)), .v (.lst LO), t5, .v (.d (.int w)), t7, t8, t9, .v (.lst R0)]) (by simp [-MX.z111, sv]) ?_
  simp only [MX.z7]
  simp [tm1, k3, sl, ca, tm2, z3]
end K01
namespace K01
open PySem L2 MX LA
theorem dot_sum : ∀ (f v : List Int), f.length = v.length + 1 → dotF f v = gi f v.length + ((List.range v.length).map fun k => gi f k * gi v k).sum
  | [], v, h => by simp at h
  | [a], [], _ => by show a = a + 0; omega
  | [a], x :: v, h => by simp at h
  | a :: b :: f, [], h => by simp at h
  | a :: b :: f, x :: v, h => by
    have ih := dot_sum (b :: f) v (by simpa using h)
    have e : ((List.range (x :: v).length).map fun k => gi (a :: b :: f) k * gi (x :: v) k).sum = a * x + ((List.range v.length).map fun k => gi (b :: f) k * gi v k).sum := by
      rw [List.length_cons, List.range_succ_eq_map, List.map_cons, List.sum_cons, List.map_map]
      congr 1
    rw [e, List.length_cons, gi_s]
    show a * x + dotF (b :: f) v = _
    rw [ih]; omega
theorem walk_pre (q : Int) : ∀ (ls : List Ln) (ws : List Int), ∃ r, walk q ls ws = ws ++ r
  | [], ws => ⟨[], (List.append_nil ws).symm⟩
  | l :: ls, ws => by
    obtain ⟨r, hr⟩ := walk_pre q ls (ws ++ [lval q ws l])
    exact ⟨lval q ws l :: r, by
      show walk q ls (ws ++ [lval q ws l]) = _
      rw [hr, List.append_assoc]; rfl⟩
theorem gi_pre {ws r : List Int} {i : Nat} (h : i < ws.length) : gi (ws ++ r) i = gi ws i := by
  unfold gi
  rw [List.getD_eq_getElem?_getD, List.getD_eq_getElem?_getD, List.getElem?_append_left h]
theorem walk_self (q : Int) (n0 : Nat) (pf : Nat → Int) : ∀ (ls : List Ln) (ws : List Int) (k a : Nat), ws.length = n0 + k → (∀ t p, ((enl k ls).filter fun p => isTi p.2)[t]? = some p → pf (a + t) = gi (walk q ls ws) (n0 + p.1)) → walkG q false pf ls ws a = walk q ls ws
  | [], ws, k, a, _, _ => rfl
  | l :: ls, ws, k, a, hk, hp => by
    have e0 : enl k (l :: ls) = (k, l) :: enl (k + 1) ls := rfl
    have ew : walk q (l :: ls) ws = walk q ls (ws ++ [lval q ws l]) := rfl
    have eg : walkG q false pf (l :: ls) ws a = walkG q false pf ls (ws ++ [wval q false pf ws a l]) (wnx a l) := rfl
    rw [e0, List.filter_cons, ew] at hp
    obtain ⟨r, hr⟩ := walk_pre q ls (ws ++ [lval q ws l])
    have at_ : gi (walk q ls (ws ++ [lval q ws l])) (n0 + k) = lval q ws l := by
      rw [hr, gi_pre (by rw [List.length_append, List.length_singleton]; omega), gi_app, if_neg (by omega), if_pos (by omega)]
    by_cases c : isTi l = true
    · have ev : wval q false pf ws a l = lval q ws l := by
        have h0 := hp 0 (k, l) (by rw [if_pos c]; rfl)
        rw [at_] at h0
        cases l with
        | ti i j => exact h0
        | _ => cases c
      have en : wnx a l = a + 1 := by unfold wnx; rw [if_pos c]
      rw [eg, ew, ev, en]
      exact walk_self q n0 pf ls _ (k + 1) (a + 1) (by rw [List.length_append, List.length_singleton, hk]; rfl) fun t p ht => by
        have h1 := hp (t + 1) p (by rw [if_pos c, List.getElem?_cons_succ]; exact ht)
        rw [← h1]
        congr 1
        omega
    · have ev : wval q false pf ws a l = lval q ws l := by
        cases l with
        | ti i j => exact absurd rfl c
        | _ => rfl
      have en : wnx a l = a := by unfold wnx; rw [if_neg c]
      rw [eg, ew, ev, en]
      exact walk_self q n0 pf ls _ (k + 1) a (by rw [List.length_append, List.length_singleton, hk]; rfl) fun t p ht => hp t p (by rw [if_neg c]; exact ht)
def bvals (s : Sh) (ws : List Int) : List Int := (bw s).map fun i => gi ws i
theorem bvals_len (s : Sh) (ws : List Int) : (bvals s ws).length = (bw s).length := by unfold bvals; rw [List.length_map]
theorem bvals_at (s : Sh) (ws : List Int) {t : Nat} {p : Nat × Ln} (h : (tms s.ls)[t]? = some p) : gi (bvals s ws) (s.n + t) = gi ws (s.n + p.1) := by
  unfold bvals bw
  unfold gi
  rw [List.getD_eq_getElem?_getD, List.getElem?_map, List.getElem?_append_right (by rw [List.length_range]; omega), List.length_range, Nat.add_sub_cancel_left, List.getElem?_map, h]; rfl
theorem bvals_take (s : Sh) (ws : List Int) (h : s.n ≤ ws.length) : (bvals s ws).take s.n = ws.take s.n := by
  refine List.ext_getElem? fun i => ?_
  rw [List.getElem?_take, List.getElem?_take]
  by_cases hi : i < s.n
  · rw [if_pos hi, if_pos hi]
    unfold bvals bw
    rw [List.getElem?_map, List.getElem?_append_left (by rw [List.length_range]; exact hi), List.getElem?_range hi, gi_at (by omega)]; rfl
  · rw [if_neg hi, if_neg hi]
theorem tell_wires {q : Nat} (hq : 1 < q) (h2 : q < 1000) (s : Sh) (hs : ShOk s) (xs : List Int) (hl : xs.length = s.n) : tell q (bvals s (walk q s.ls (insR q xs))) (wforms q s) (walk q s.ls (insR q xs)) := by
  have ok := (insR_ok (q := q) (by omega) h2 xs)
  have rq := RQ.walk s.ls ok
  have il : (insR q xs).length = s.n := by unfold insR; rw [List.length_map, hl]
  have wl : (walk q s.ls (insR q xs)).length = s.n + s.ls.length := by rw [walk_len, il]
  have h := forms_tell hq h2 s hs (v := bvals s (walk q s.ls (insR q xs))) (bvals_len _ _) (fun x hx => by
    unfold bvals at hx
    obtain ⟨i, hi, rfl⟩ := List.mem_map.mp hx
    by_cases c : i < (walk q s.ls (insR q xs)).length
    · exact rq.r _ (List.mem_of_getElem? (gi_at c))
    · have : gi (walk q s.ls (insR q xs)) i = 0 := by
        unfold gi
        rw [List.getD_eq_getElem?_getD, List.getElem?_eq_none (by omega)]; rfl
      rw [this]; omega)
  obtain ⟨r, hr⟩ := walk_pre q s.ls (insR q xs)
  have e1 : (bvals s (walk q s.ls (insR q xs))).take s.n = insR q xs := by
    rw [bvals_take s _ (by omega), hr, ← il, List.take_left']
    rfl
  rw [e1] at h
  have e2 := walk_self q s.n (fun a => gi (bvals s (walk q s.ls (insR q xs))) (s.n + a)) s.ls (insR q xs) 0 0 (by omega) fun t p ht => by
    rw [Nat.zero_add]
    exact bvals_at s _ ht
  rw [e2] at h
  exact h
end K01
namespace K01
open PySem L2 MX LA
theorem ix_last (r : List Int) (x : Int) : fIx (.d (itp (r ++ [x]))) (.d (.int (-1))) = some (.d (.int x)) := by
  have l1 : fIxT (.d (itp (r ++ [x]))) (.d (.int (-1))) = some (.d (.int x)) := by
    show (atI ((r ++ [x]).map D.int) (-1)).map O.d = _
    rw [List.map_append]
    show (atI (r.map D.int ++ [D.int x]) (-1)).map O.d = _
    rw [atI_last]; rfl
  have l0 : fIxL (.d (itp (r ++ [x]))) (.d (.int (-1))) = none := rfl
  unfold fIx
  rw [l0]
  dsimp only
  rw [l1]
theorem ix_lastN {f : List Int} {m : Nat} (h : f.length = m + 1) : fIx (.d (itp f)) (.d (.int (-1))) = some (.d (.int (gi f m))) := by
  have hne : f ≠ [] := fun e => by rw [e] at h; simp at h
  have e := List.dropLast_concat_getLast hne
  have hl : f.getLast hne = gi f m := by
    have h1 : f[m]? = some (f.getLast hne) := by rw [List.getLast_eq_getElem, ← List.getElem?_eq_getElem]; congr 1; omega
    rw [gi_at (by omega)] at h1
    exact (Option.some.inj h1).symm
  rw [hl] at e
  have k := ix_last f.dropLast (gi f m)
  rw [e] at k
  exact k
section
variable (P0 P2 s3 s5 s6 s7 s8 s9 : Sl)
abbrev ET (q : Int) (F : D) (V T : D) (s12 s13 : Sl) : En := [P0, .p (.d (.int q)), P2, s3, .v (.d F), s5, s6, s7, s8, s9, .v (.d V), .v (.d T), s12, s13, .no, .no]
theorem tl_turn {q : Nat} (hq : 1 < q) (h2 : q < 1000) (s : Sh) (hs : ShOk s) {v t : List Int} (hv : v.length = (bw s).length) (ht : tell q v (wforms q s) t) {w : Nat} (hw : w < t.length) (s13 : Sl) (h13 : s13.pinned = false) :
    ∃ x : Int, l1__law_is_told (ET P0 P2 s3 s5 s6 s7 s8 s9 q (.tup ((wforms q s).map itp)) (.lst (v.map D.int)) (.lst (t.map D.int)) (.v (.d (.int (w : Int)))) s13) = .nx (ET P0 P2 s3 s5 s6 s7 s8 s9 q (.tup ((wforms q s).map itp)) (.lst (v.map D.int)) (.lst (t.map D.int)) (.v (.d (.int (w : Int)))) (.v (.d (.int x)))) := by
  have n16 := hs.n16
  have l60 := hs.l60
  have bl := bw_len s
  have F := wforms_FQ hq h2 s hs
  have ro := F.r _ (List.mem_of_getElem? (gf_at (fs := wforms q s) (j := w) (by rw [ht.1]; exact hw)))
  have lf : (gf (wforms q s) w).length = v.length + 1 := by rw [ro.1, hv]; rfl
  have dt := ht.2 w hw
  rw [dot_sum _ _ lf] at dt
  have j1 : fIx (.d (.tup ((wforms q s).map itp))) (.d (.int (w : Int))) = some (.d (itp (gf (wforms q s) w))) := ix_tp (by rw [List.getElem?_map, gf_at (by rw [ht.1]; exact hw)]; rfl)
  have j2 := ix_lastN lf
  have j3 : fIx (.d (.lst (t.map D.int))) (.d (.int (w : Int))) = some (.d (.int (gi t w))) := ix_ls (by rw [List.getElem?_map, gi_at hw]; rfl)
  have lV : fLenU [.d (.lst (v.map D.int))] = some (.d (.int (v.length : Nat))) := by rw [y12, List.length_map]
  have g : gR1 [.d (.int ((v.length : Nat) : Int))] = some ((List.range' 0 v.length).map di) := gR1_n (m := v.length) (by omega)
  have lc := lc_m (vs := [14]) (t := tName 14) (el := e5__law_is_told) (f := di) (g := fun k => O.d (.int (gi (gf (wforms q s) w) k * gi v k))) (e := ET P0 P2 s3 s5 s6 s7 s8 s9 q (.tup ((wforms q s).map itp)) (.lst (v.map D.int)) (.lst (t.map D.int)) (.v (.d (.int (w : Int)))) s13) (List.range' 0 v.length) (by rw [List.length_range']; omega) fun k hk => by
    have hk := (List.mem_range'_1.mp hk).2
    have i1 : fIx (.d (itp (gf (wforms q s) w))) (.d (.int (k : Int))) = some (.d (.int (gi (gf (wforms q s) w) k))) := ix_tp (by rw [List.getElem?_map, gi_at (by omega)]; rfl)
    have i2 : fIx (.d (.lst (v.map D.int))) (.d (.int (k : Int))) = some (.d (.int (gi v k))) := ix_ls (by rw [List.getElem?_map, gi_at (by omega)]; rfl)
    have rk := ro.2 _ (List.mem_of_getElem? (gi_at (r := gf (wforms q s) w) (j := k) (by omega)))
    have sm : isSm (gi (gf (wforms q s) w) k) = true := sm_of (by omega) (by omega)
    clear dt rk
    unfold di
    generalize gi (gf (wforms q s) w) k = a at *
    generalize gi v k = b at *
    generalize itp (gf (wforms q s) w) = I at *
    generalize D.tup ((wforms q s).map itp) = FD at *
    generalize D.lst (v.map D.int) = VD at *
    generalize D.lst (t.map D.int) = TD at *
    generalize (w : Int) = w' at *
    generalize (k : Int) = k' at *
    exact ⟨[P0, .p (.d (.int q)), P2, s3, .v (.d FD), s5, s6, s7, s8, s9, .v (.d VD), .v (.d TD), .v (.d (.int w')), s13, .v (.d (.int k')), .no], by simp, by simp [j1, i1, i2, y15 sm], rfl⟩
  have sm := sum_m (l := List.range' 0 v.length) (f := fun k => gi (gf (wforms q s) w) k * gi v k)
  rw [List.range_eq_range'] at dt
  have qp : (0 : Int) < (q : Int) := by omega
  refine ⟨gi (gf (wforms q s) w) v.length + ((List.range' 0 v.length).map fun k => gi (gf (wforms q s) w) k * gi v k).sum, ?_⟩
  generalize ((List.range' 0 v.length).map fun k => gi (gf (wforms q s) w) k * gi v k).sum = sx at *
  generalize (List.range' 0 v.length).map (fun k => O.d (.int (gi (gf (wforms q s) w) k * gi v k))) = SO at *
  generalize (List.range' 0 v.length).map di = IX at *
  generalize gi (gf (wforms q s) w) v.length = a at *
  generalize ((v.length : Nat) : Int) = vl at *
  generalize itp (gf (wforms q s) w) = I at *
  generalize D.tup ((wforms q s).map itp) = FD at *
  generalize D.lst (v.map D.int) = VD at *
  generalize D.lst (t.map D.int) = TD at *
  generalize gi t w = tw at *
  generalize (w : Int) = w' at *
  generalize (q : Int) = q' at *
  generalize hz : a + sx = z at *
  refine seqA (by simp [j1, j2, lV, g, lc, sm, hz, h13, -MX.y12] <;> rfl) ?_
  simp only [MX.z7]
  simp [y17 qp, dt, j3]
theorem tl_loop {q : Nat} (hq : 1 < q) (h2 : q < 1000) (s : Sh) (hs : ShOk s) {v t : List Int} (hv : v.length = (bw s).length) (ht : tell q v (wforms q s) t) : ∀ (m w : Nat) (s12 s13 : Sl), w + m = t.length → s12.pinned = false → s13.pinned = false → ∃ t12 t13 : Sl, t12.pinned = false ∧ t13.pinned = false ∧
    sForL (tName 12) l1__law_is_told (idx w m) (ET P0 P2 s3 s5 s6 s7 s8 s9 q (.tup ((wforms q s).map itp)) (.lst (v.map D.int)) (.lst (t.map D.int)) s12 s13) = .nx (ET P0 P2 s3 s5 s6 s7 s8 s9 q (.tup ((wforms q s).map itp)) (.lst (v.map D.int)) (.lst (t.map D.int)) t12 t13)
  | 0, w, s12, s13, _, h12, h13 => ⟨s12, s13, h12, h13, by rw [idx_0]; exact u1⟩
  | m + 1, w, s12, s13, hw, h12, h13 => by
    obtain ⟨x, tu⟩ := tl_turn P0 P2 s3 s5 s6 s7 s8 s9 hq h2 s hs hv ht (w := w) (by omega) s13 h13
    obtain ⟨t12, t13, g12, g13, ih⟩ := tl_loop hq h2 s hs hv ht m (w + 1) (.v (.d (.int (w : Int)))) (.v (.d (.int x))) (by omega) rfl rfl
    refine ⟨t12, t13, g12, g13, ?_⟩
    rw [idx_s, ← ih]
    exact for_nx (e1 := ET P0 P2 s3 s5 s6 s7 s8 s9 q (.tup ((wforms q s).map itp)) (.lst (v.map D.int)) (.lst (t.map D.int)) (.v (.d (.int (w : Int)))) s13) (by simp [h12]) tu
theorem tl_pair {q : Nat} (hq : 1 < q) (h2 : q < 1000) (s : Sh) (hs : ShOk s) {v t : List Int} (hv : v.length = (bw s).length) (ht : tell q v (wforms q s) t) (s12 s13 : Sl) (h12 : s12.pinned = false) (h13 : s13.pinned = false) : ∃ t12 t13 : Sl, t12.pinned = false ∧ t13.pinned = false ∧
    l2__law_is_told (ET P0 P2 s3 s5 s6 s7 s8 s9 q (.tup ((wforms q s).map itp)) (.lst (v.map D.int)) (.lst (t.map D.int)) s12 s13) = .nx (ET P0 P2 s3 s5 s6 s7 s8 s9 q (.tup ((wforms q s).map itp)) (.lst (v.map D.int)) (.lst (t.map D.int)) t12 t13) := by
  have n16 := hs.n16
  have l60 := hs.l60
  obtain ⟨t12, t13, g12, g13, lp⟩ := tl_loop P0 P2 s3 s5 s6 s7 s8 s9 hq h2 s hs hv ht t.length 0 s12 s13 (by omega) h12 h13
  refine ⟨t12, t13, g12, g13, ?_⟩
  have F := forms_zero hq h2 s hs
  have tl : t.length ≤ 1000 := by rw [← ht.1, F.1, wZ_len]; omega
  have lT : fLenU [.d (.lst (t.map D.int))] = some (.d (.int (t.length : Nat))) := by rw [y12, List.length_map]
  have g := gR1_n (m := t.length) (by omega)
  generalize idx 0 t.length = IX at *
  generalize ((t.length : Nat) : Int) = tl' at *
  generalize D.lst (t.map D.int) = TD at *
  refine Eq.trans (sFor_ok (by simp [lT, g, -MX.y12] <;> rfl)) lp
end
end K01
set_option maxHeartbeats 8000000
namespace K01
open PySem L2 MX LA
theorem it_ints {l : List Int} (h : l.length ≤ 1000) : itbB 24 (.tup (l.map D.int)) = true := itb_tup.mpr ⟨by rw [List.length_map]; exact h, fun x hx => by
  obtain ⟨i, _, rfl⟩ := List.mem_map.mp hx
  rfl⟩
theorem it_nats {l : List Nat} (h : l.length ≤ 1000) : itbB 24 (.tup (l.map di)) = true := itb_tup.mpr ⟨by rw [List.length_map]; exact h, fun x hx => by
  obtain ⟨i, _, rfl⟩ := List.mem_map.mp hx
  rfl⟩
abbrev EK (c : List Int) (S : Sx) (q : Int) (SD : D) (s3 : Sl) (F : D) (s5 s6 s7 s8 s9 s10 s11 s12 s13 : Sl) : En := [.p (stO c S), .p (.d (.int q)), .p (.d SD), s3, .v (.d F), s5, s6, s7, s8, s9, s10, s11, s12, s13, .no, .no]
section
variable (c : List Int) {q : Nat} (F : D) (s : Sh)
theorem k_inputs (hs : ShOk s) (S : Sx) (h0 : 0 ≤ S.s0) (s3 s5 s6 s7 s8 s9 s10 s11 s12 s13 : Sl) (h6 : s6.pinned = false) : ∃ (S' : Sx) (xs : List Int), 0 ≤ S'.s0 ∧ xs.length = s.n ∧
    (sAsg (dCall (on1 fTuple) (vCons (vT (dLc (iOps (vCons (vT (dBin fIx (vS 2) (vT (dC (.int 0))))) vNil) gR1) [14] (tName 14) dYes e1__law_is_told)) vNil)) (tName 6)) (EK c S q (shD s) s3 F s5 s6 s7 s8 s9 s10 s11 s12 s13) = .nx (EK c S' q (shD s) s3 F s5 (.v (.d (.tup (xs.map D.int)))) s7 s8 s9 s10 s11 s12 s13) := by
  have n16 := hs.n16
  obtain ⟨xs, S', lc, g, hl, _⟩ := lc_st (vs := [14]) (t := tName 14) (el := e1__law_is_told) (f := fun x : Int => O.d (.int x)) (E := fun S : Sx => EK c S q (shD s) s3 F s5 s6 s7 s8 s9 s10 s11 s12 s13) (I := fun S : Sx => 0 ≤ S.s0) (Q := fun _ => True) (idx 0 s.n) (by rw [idx_len]; omega) S h0 fun d _ S h0 => by
    obtain ⟨S1, x, g1, _, k1⟩ := v_number c S h0
    refine ⟨[.p (stO c S), .p (.d (.int q)), .p (.d (shD s)), s3, .v (.d F), s5, s6, s7, s8, s9, s10, s11, s12, s13, .v (.d d), .no], [.p (stO c S1), .p (.d (.int q)), .p (.d (shD s)), s3, .v (.d F), s5, s6, s7, s8, s9, s10, s11, s12, s13, .v (.d d), .no], x, S1, by simp, ?_, rfl, g1, trivial⟩
    obtain ⟨so, es⟩ : ∃ so, stO c S = .lst so := ⟨_, rfl⟩
    obtain ⟨so1, es1⟩ : ∃ so, stO c S1 = .lst so := ⟨_, rfl⟩
    rw [es, es1] at k1
    rw [es, es1]
    simp [k1]
  refine ⟨S', xs, g, by rw [hl, idx_len], ?_⟩
  have i0 : fIx (.d (shD s)) (.d (.int 0)) = some (.d (.int (s.n : Int))) := rfl
  have g := gR1_n (m := s.n) (by omega)
  have tm := tup_m (l := xs) (f := D.int)
  have lc : lcL [14] (tName 14) dYes e1__law_is_told (idx 0 s.n) [] (EK c S q (shD s) s3 F s5 s6 s7 s8 s9 s10 s11 s12 s13) = _ := lc
  obtain ⟨so, es⟩ : ∃ so, stO c S = .lst so := ⟨_, rfl⟩
  obtain ⟨so1, es1⟩ : ∃ so, stO c S' = .lst so := ⟨_, rfl⟩
  unfold EK at *
  rw [es, es1] at lc
  rw [es, es1]
  generalize xs.map D.int = XD at *
  generalize xs.map (fun x => O.d (.int x)) = XO at *
  generalize idx 0 s.n = IX at *
  generalize shD s = SD at *
  generalize (s.n : Int) = n at *
  simp [i0, g, lc, tm, h6]
theorem k_drawn (hq : 0 < q) (h2 : q < 1000) (hs : ShOk s) (S : Sx) (h0 : 0 ≤ S.s0) (s3 s5 s6 s7 s8 s9 s10 s11 s12 s13 : Sl) (h9 : s9.pinned = false) (h3 : s3 = .v (.lst ((bw s).map fun i => .d (di i))) ∨ s3 = .v (.d (.lst ((bw s).map di)))) : ∃ (S' : Sx) (dr : List Int), 0 ≤ S'.s0 ∧ dr.length = (bw s).length ∧ (∀ x ∈ dr, 0 ≤ x ∧ x < (q : Int)) ∧
    (sAsg (dLc (iAny (dVar 3)) [14] (tName 14) dYes e3__law_is_told) (tName 9)) (EK c S q (shD s) s3 F s5 s6 s7 s8 s9 s10 s11 s12 s13) = .nx (EK c S' q (shD s) (.v (.d (.lst ((bw s).map di)))) F s5 s6 s7 s8 (.v (ilO dr)) s10 s11 s12 s13) := by
  have n16 := hs.n16
  have l60 := hs.l60
  have bl := bw_len s
  obtain ⟨dr, S', lc, g, hl, hq2⟩ := lc_st (vs := [14]) (t := tName 14) (el := e3__law_is_told) (f := fun x : Int => O.d (.int x)) (E := fun S : Sx => EK c S q (shD s) (.v (.d (.lst ((bw s).map di)))) F s5 s6 s7 s8 s9 s10 s11 s12 s13) (I := fun S : Sx => 0 ≤ S.s0) (Q := fun x => 0 ≤ x ∧ x < (q : Int)) ((bw s).map di) (by rw [List.length_map]; omega) S h0 fun d _ S h0 => by
    obtain ⟨S1, x, g1, a1, b1, k1⟩ := v_take c S h0 (lim := (q : Int)) (by omega) (by omega)
    refine ⟨[.p (stO c S), .p (.d (.int q)), .p (.d (shD s)), .v (.d (.lst ((bw s).map di))), .v (.d F), s5, s6, s7, s8, s9, s10, s11, s12, s13, .v (.d d), .no], [.p (stO c S1), .p (.d (.int q)), .p (.d (shD s)), .v (.d (.lst ((bw s).map di))), .v (.d F), s5, s6, s7, s8, s9, s10, s11, s12, s13, .v (.d d), .no], x, S1, by simp, ?_, rfl, g1, a1, b1⟩
    obtain ⟨so, es⟩ : ∃ so, stO c S = .lst so := ⟨_, rfl⟩
    obtain ⟨so1, es1⟩ : ∃ so, stO c S1 = .lst so := ⟨_, rfl⟩
    rw [es, es1] at k1
    rw [es, es1]
    simp [k1]
  refine ⟨S', dr, g, by rw [hl, List.length_map], hq2, ?_⟩
  have lc : lcL [14] (tName 14) dYes e3__law_is_told ((bw s).map di) [] (EK c S q (shD s) (.v (.d (.lst ((bw s).map di)))) F s5 s6 s7 s8 s9 s10 s11 s12 s13) = _ := lc
  have fz : fzs ((bw s).map fun i => O.d (di i)) = (bw s).map di := fzs_m
  obtain ⟨so, es⟩ : ∃ so, stO c S = .lst so := ⟨_, rfl⟩
  obtain ⟨so1, es1⟩ : ∃ so, stO c S' = .lst so := ⟨_, rfl⟩
  unfold EK at *
  rw [es, es1] at lc
  rw [es, es1]
  unfold ilO
  generalize dr.map (fun x => O.d (.int x)) = XO at *
  generalize hb : (bw s).map di = BD at *
  generalize hb2 : (bw s).map (fun i => O.d (di i)) = BO at *
  rcases h3 with rfl | rfl
  · simp [fz, lc, h9]
  · simp [lc, h9]
end
end K01
set_option maxHeartbeats 8000000
namespace K01
open PySem L2 MX LA
theorem sl_dlt {l : List Int} {j : Nat} : fSl (.d (.lst (l.map D.int))) none (some (j : Int)) = some (ilO (l.take j)) := fSl_l (f := D.int)
theorem sl_dlf {l : List Int} {j : Nat} : fSl (.d (.lst (l.map D.int))) (some (j : Int)) none = some (ilO (l.drop j)) := by
  have e : fSlL (.d (.lst (l.map D.int))) (some (j : Int)) none = some (O.lst ((cutD (l.map D.int) (some (j : Int)) none).map .d)) := rfl
  unfold fSl
  rw [e]
  dsimp only
  rw [cut_frN, ← List.map_drop, List.map_map]
  rfl
section
variable (c : List Int) {q : Nat} (s : Sh)
theorem k_pairs (hq : 1 < q) (h2 : q < 1000) (hs : ShOk s) (S : Sx) (xs dr : List Int) (hl : xs.length = s.n) (hdl : dr.length = (bw s).length) (hdr : ∀ x ∈ dr, 0 ≤ x ∧ x < (q : Int)) (s5 s6 s8 s10 s11 s12 s13 : Sl) (h10 : s10.pinned = false) (h11 : s11.pinned = false) (h12 : s12.pinned = false) (h13 : s13.pinned = false) :
    ∃ t7 t9 t10 t11 t12 t13 : Sl, t7.pinned = false ∧ t9.pinned = false ∧ t10.pinned = false ∧ t11.pinned = false ∧ t12.pinned = false ∧ t13.pinned = false ∧
    (sFor (iAny (dTup (aCons (dTup (aCons (dFz (dLc (iAny (dVar 3)) [14] (tName 14) dYes e4__law_is_told)) (aCons (dVar 7) aNil))) (aCons (dTup (aCons (dVar 9) (aCons (dCallF d__law_walk [0, 1, 2, 3] (cCons (gName 1) (cLate 2 (cCons (gVal (dSl fSl (vS 9) oNone (oSome (vT (dBin fIx (vS 2) (vT (dC (.int 0)))))))) (cCons (gVal (dSl fSl (vS 9) (oSome (vT (dBin fIx (vS 2) (vT (dC (.int 0)))))) oNone)) cNil))))) aNil))) aNil)))) (tTupl (tgCons (tName 10) (tgCons (tName 11) tgNil))) l2__law_is_told)
      (EK c S q (shD s) (.v (.d (.lst ((bw s).map di)))) (.tup ((wforms q s).map itp)) s5 s6 (.v (ilO (walk q s.ls (insR q xs)))) s8 (.v (ilO dr)) s10 s11 s12 s13) =
    .nx (EK c S q (shD s) (.v (.d (.lst ((bw s).map di)))) (.tup ((wforms q s).map itp)) s5 s6 t7 s8 t9 t10 t11 t12 t13) := by
  have n16 := hs.n16
  have l60 := hs.l60
  have bl := bw_len s
  have nb := n_le s
  have il : (insR q xs).length = s.n := by unfold insR; rw [List.length_map, hl]
  have wl : (walk q s.ls (insR q xs)).length = s.n + s.ls.length := by rw [walk_len, il]
  have tw := tell_wires hq h2 s hs xs hl
  have td := forms_tell hq h2 s hs (v := dr) hdl hdr
  have kW := v_walkL (q := q) (by omega) h2 s hs (dr.take s.n) (dr.drop s.n) (fun x hx => hdr x (List.mem_of_mem_take hx)) (fun x hx => hdr x (List.mem_of_mem_drop hx)) (by rw [List.length_take]; omega) (by rw [List.length_drop]; have := cnt_bw s; omega)
  have ew : walkG q false (fun a => gi (dr.drop s.n) a) s.ls (dr.take s.n) 0 = walkG q false (fun a => gi dr (s.n + a)) s.ls (dr.take s.n) 0 := walkG_cg q (fun a => by
    unfold gi
    rw [List.getD_eq_getElem?_getD, List.getD_eq_getElem?_getD, List.getElem?_drop]) _ _ _
  rw [ew] at kW
  generalize hT2 : walkG q false (fun a => gi dr (s.n + a)) s.ls (dr.take s.n) 0 = T2 at *
  generalize hT1 : walk q s.ls (insR q xs) = T1 at *
  have lc := lc_m (vs := [14]) (t := tName 14) (el := e4__law_is_told) (f := di) (g := fun i => O.d (.int (gi T1 i))) (e := EK c S q (shD s) (.v (.d (.lst ((bw s).map di)))) (.tup ((wforms q s).map itp)) s5 s6 (.v (ilO T1)) s8 (.v (ilO dr)) s10 s11 s12 s13) (bw s) (by omega) fun i hi => by
    have hi : i < T1.length := by
      unfold bw at hi
      rw [wl]
      rcases List.mem_append.mp hi with hi | hi
      · have := List.mem_range.mp hi; omega
      · obtain ⟨p, hp, rfl⟩ := List.mem_map.mp hi
        unfold tms at hp
        have hp := (List.mem_filter.mp hp).1
        rw [enl_range] at hp
        obtain ⟨k, hk, rfl⟩ := List.mem_map.mp hp
        have hk := (List.mem_range'_1.mp hk).2
        show s.n + k < s.n + s.ls.length
        omega
    have ix := ix_ilO hi
    unfold di
    unfold ilO at *
    generalize T1.map (fun x => O.d (.int x)) = TO at *
    generalize dr.map (fun x => O.d (.int x)) = DO at *
    generalize D.lst ((bw s).map fun (i : Nat) => D.int (i : Int)) = BD at *
    generalize gi T1 i = x at *
    generalize (i : Int) = i' at *
    generalize shD s = SD at *
    generalize D.tup ((wforms q s).map itp) = FD at *
    obtain ⟨so, es⟩ : ∃ so, stO c S = .lst so := ⟨_, rfl⟩
    unfold EK
    rw [es]
    exact ⟨[.p (.lst so), .p (.d (.int q)), .p (.d SD), .v (.d BD), .v (.d FD), s5, s6, .v (.lst TO), s8, .v (.lst DO), s10, s11, s12, s13, .v (.d (.int i')), .no], by simp, by simp [ix], rfl⟩
  have efz : (O.lst ((bw s).map fun i => O.d (.int (gi T1 i)))).fz = .lst ((bvals s T1).map D.int) := by
    show D.lst (fzs _) = _
    unfold bvals
    rw [List.map_map]
    congr 1
    exact fzs_m (f := fun i => D.int (gi T1 i))
  have f1 : (ilO T1).fz = .lst (T1.map D.int) := by
    show D.lst (fzs _) = _
    congr 1
    exact fzs_m
  have f2 : (ilO T2).fz = .lst (T2.map D.int) := by
    show D.lst (fzs _) = _
    congr 1
    exact fzs_m
  have f3 : (ilO dr).fz = .lst (dr.map D.int) := by
    show D.lst (fzs _) = _
    congr 1
    exact fzs_m
  have i0 : fIx (.d (shD s)) (.d (.int 0)) = some (.d (.int (s.n : Int))) := rfl
  have t1 := sl_dlt (l := dr) (j := s.n)
  have t2 := sl_dlf (l := dr) (j := s.n)
  have z2 : (2 : Nat) ≤ sizeLine := by decide
  have it : (iAny (dTup (aCons (dTup (aCons (dFz (dLc (iAny (dVar 3)) [14] (tName 14) dYes e4__law_is_told)) (aCons (dVar 7) aNil))) (aCons (dTup (aCons (dVar 9) (aCons (dCallF d__law_walk [0, 1, 2, 3] (cCons (gName 1) (cLate 2 (cCons (gVal (dSl fSl (vS 9) oNone (oSome (vT (dBin fIx (vS 2) (vT (dC (.int 0)))))))) (cCons (gVal (dSl fSl (vS 9) (oSome (vT (dBin fIx (vS 2) (vT (dC (.int 0)))))) oNone)) cNil))))) aNil))) aNil))))
      (EK c S q (shD s) (.v (.d (.lst ((bw s).map di)))) (.tup ((wforms q s).map itp)) s5 s6 (.v (ilO T1)) s8 (.v (ilO dr)) s10 s11 s12 s13) =
      .ok [.tup [.lst ((bvals s T1).map D.int), .lst (T1.map D.int)], .tup [.lst (dr.map D.int), .lst (T2.map D.int)]] (EK c S q (shD s) (.v (.d (.lst ((bw s).map di)))) (.tup ((wforms q s).map itp)) s5 s6 (.v (.d (.lst (T1.map D.int)))) s8 (.v (.d (.lst (dr.map D.int)))) s10 s11 s12 s13) := by
    clear tw td ew hT1 hT2
    unfold ilO at *
    generalize (bw s).map (fun i => O.d (.int (gi T1 i))) = BO at *
    generalize (bvals s T1).map D.int = BV at *
    generalize T1.map (fun x => O.d (.int x)) = TO at *
    generalize T1.map D.int = TD at *
    generalize T2.map (fun x => O.d (.int x)) = TO2 at *
    generalize T2.map D.int = TD2 at *
    generalize (dr.take s.n).map (fun x => O.d (.int x)) = DT at *
    generalize (dr.take s.n).map D.int = DTD at *
    generalize (dr.drop s.n).map (fun x => O.d (.int x)) = DR at *
    generalize dr.map (fun x => O.d (.int x)) = DO at *
    generalize dr.map D.int = DD at *
    generalize (bw s).map di = BD at *
    generalize D.tup ((wforms q s).map itp) = FD at *
    generalize shD s = SD at *
    generalize (s.n : Int) = n at *
    obtain ⟨so, es⟩ : ∃ so, stO c S = .lst so := ⟨_, rfl⟩
    unfold EK at *
    rw [es] at lc
    rw [es]
    generalize (q : Int) = q' at *
    have fa : ∀ (a b : D), fzs [O.d a, O.d b] = [a, b] := fun a b => rfl
    have fb : ∀ (a : D), fzs [O.d a, O.lst TO2] = [a, .lst TD2] := fun a => by
      show [a, (O.lst TO2).fz] = _
      rw [f2]
    simp [lc, efz, f1, f3, t1, t2, i0, kW, z_late, z2, fa, fb]
  obtain ⟨t12, t13, g12, g13, p1⟩ := tl_pair (.p (stO c S)) (.p (.d (shD s))) (.v (.d (.lst ((bw s).map di)))) s5 s6 (.v (.d (.lst (T1.map D.int)))) s8 (.v (.d (.lst (dr.map D.int)))) hq h2 s hs (v := bvals s T1) (t := T1) (bvals_len _ _) tw s12 s13 h12 h13
  obtain ⟨u12, u13, k12, k13, p2⟩ := tl_pair (.p (stO c S)) (.p (.d (shD s))) (.v (.d (.lst ((bw s).map di)))) s5 s6 (.v (.d (.lst (T1.map D.int)))) s8 (.v (.d (.lst (dr.map D.int)))) hq h2 s hs (v := dr) (t := T2) hdl td t12 t13 g12 g13
  refine ⟨.v (.d (.lst (T1.map D.int))), .v (.d (.lst (dr.map D.int))), .v (.d (.lst (dr.map D.int))), .v (.d (.lst (T2.map D.int))), u12, u13, rfl, rfl, rfl, rfl, k12, k13, Eq.trans (sFor_ok it) ?_⟩
  · refine Eq.trans (for_nx (e1 := ET (.p (stO c S)) (.p (.d (shD s))) (.v (.d (.lst ((bw s).map di)))) s5 s6 (.v (.d (.lst (T1.map D.int)))) s8 (.v (.d (.lst (dr.map D.int)))) q (.tup ((wforms q s).map itp)) (.lst ((bvals s T1).map D.int)) (.lst (T1.map D.int)) s12 s13) ?_ p1) ?_
    · unfold EK ET
      simp [h10, h11]
    · refine Eq.trans (for_nx (e1 := ET (.p (stO c S)) (.p (.d (shD s))) (.v (.d (.lst ((bw s).map di)))) s5 s6 (.v (.d (.lst (T1.map D.int)))) s8 (.v (.d (.lst (dr.map D.int)))) q (.tup ((wforms q s).map itp)) (.lst (dr.map D.int)) (.lst (T2.map D.int)) t12 t13) ?_ p2) u1
      unfold ET
      simp
end
end K01
set_option maxHeartbeats 8000000
namespace K01
open PySem L2 MX LA
section
variable (c : List Int) {q : Nat} (s : Sh)
theorem k_turn (hq : 1 < q) (h2 : q < 1000) (hs : ShOk s) (S : Sx) (h0 : 0 ≤ S.s0) (s3 s5 s6 s7 s8 s9 s10 s11 s12 s13 : Sl) (h3 : s3 = .v (.lst ((bw s).map fun i => .d (di i))) ∨ s3 = .v (.d (.lst ((bw s).map di))))
    (h6 : s6.pinned = false) (h7 : s7.pinned = false) (h8 : s8.pinned = false) (h9 : s9.pinned = false) (h10 : s10.pinned = false) (h11 : s11.pinned = false) (h12 : s12.pinned = false) (h13 : s13.pinned = false) :
    ∃ (S' : Sx) (t6 t7 t8 t9 t10 t11 t12 t13 : Sl), 0 ≤ S'.s0 ∧ t6.pinned = false ∧ t7.pinned = false ∧ t8.pinned = false ∧ t9.pinned = false ∧ t10.pinned = false ∧ t11.pinned = false ∧ t12.pinned = false ∧ t13.pinned = false ∧
    l3__law_is_told (EK c S q (shD s) s3 (.tup ((wforms q s).map itp)) s5 s6 s7 s8 s9 s10 s11 s12 s13) = .nx (EK c S' q (shD s) (.v (.d (.lst ((bw s).map di)))) (.tup ((wforms q s).map itp)) s5 t6 t7 t8 t9 t10 t11 t12 t13) := by
  have n16 := hs.n16
  have l60 := hs.l60
  have o8 := hs.o8
  obtain ⟨S1, xs, g1, xl, st1⟩ := k_inputs c (.tup ((wforms q s).map itp)) s hs S h0 (q := q) s3 s5 s6 s7 s8 s9 s10 s11 s12 s13 h6
  have il : (insR q xs).length = s.n := by unfold insR; rw [List.length_map, xl]
  have wl : (walk q s.ls (insR q xs)).length = s.n + s.ls.length := by rw [walk_len, il]
  have wr := RQ.walk s.ls (insR_ok (q := q) (by omega) h2 xs)
  have kW := v_walk (q := q) (m := 0) (by omega) h2 s hs (P3 := .d .non) (isn := true) (pf := fun _ => 0) rfl (fun e => by cases e) (fun e => by cases e) (fun e => by cases e) (X := .d (.tup (xs.map D.int))) (X' := .d (.tup (xs.map D.int))) xs (fun s3 s4 s5 s6 s7 => by
    generalize xs.map D.int = XD
    generalize shD s = SD
    simp) xl
  rw [walkG_true] at kW
  have kV := v_wirevals (q := q) (by omega) h2 s hs (X := .tup (xs.map D.int)) xs rfl xl
  have kR := v_results (q := q) (by omega) h2 s hs (X := .tup (xs.map D.int)) xs rfl xl
  have tm := tup_m (l := walk q s.ls (insR q xs)) (f := D.int)
  have sm := same_pl 24 _ (it_ints (l := walk q s.ls (insR q xs)) (by omega))
  have i2 : fIx (.d (shD s)) (.d (.int 2)) = some (.d (.tup (s.os.map di))) := rfl
  have lc := lc_m (vs := [15]) (t := tName 15) (el := e2__law_is_told) (f := di) (g := fun o => O.d (.int (gi (walk q s.ls (insR q xs)) o))) (e := EK c S1 q (shD s) s3 (.tup ((wforms q s).map itp)) s5 (.v (.d (.tup (xs.map D.int)))) (.v (ilO (walk q s.ls (insR q xs)))) s8 s9 s10 s11 s12 s13) s.os (by omega) fun o ho => by
    have ix := ix_ilO (ws := walk q s.ls (insR q xs)) (i := o) (by rw [wl]; exact hs.ou o ho)
    unfold di
    unfold ilO at *
    generalize (walk q s.ls (insR q xs)).map (fun x => O.d (.int x)) = WO at *
    generalize gi (walk q s.ls (insR q xs)) o = x at *
    generalize (o : Int) = o' at *
    generalize xs.map D.int = XD at *
    generalize shD s = SD at *
    generalize D.tup ((wforms q s).map itp) = FD at *
    obtain ⟨so, es⟩ : ∃ so, stO c S1 = .lst so := ⟨_, rfl⟩
    unfold EK
    rw [es]
    exact ⟨[.p (.lst so), .p (.d (.int q)), .p (.d SD), s3, .v (.d FD), s5, .v (.d (.tup XD)), .v (.lst WO), s8, s9, s10, s11, s12, s13, .no, .v (.d (.int o'))], by simp, by simp [ix], rfl⟩
  have tm2 := tup_m (l := s.os) (f := fun o => D.int (gi (walk q s.ls (insR q xs)) o))
  have sm2 : d__law_same 24 [.d (.tup (s.os.map fun o => D.int (gi (walk q s.ls (insR q xs)) o))), .d (.tup (s.os.map fun o => D.int (gi (walk q s.ls (insR q xs)) o)))] = .ok (.d (.bl true)) [some (.d (.tup (s.os.map fun o => D.int (gi (walk q s.ls (insR q xs)) o)))), some (.d (.tup (s.os.map fun o => D.int (gi (walk q s.ls (insR q xs)) o))))] := same_pl 24 _ (itb_tup.mpr ⟨by rw [List.length_map]; omega, fun x hx => by
    obtain ⟨i, _, rfl⟩ := List.mem_map.mp hx
    rfl⟩)
  obtain ⟨S2, dr, g2, dl, dq, st6⟩ := k_drawn c (.tup ((wforms q s).map itp)) s (q := q) (by omega) h2 hs S1 g1 s3 s5 (.v (.d (.tup (xs.map D.int)))) (.v (ilO (walk q s.ls (insR q xs)))) (.v (.d (.tup (s.os.map fun o => D.int (gi (walk q s.ls (insR q xs)) o))))) s9 s10 s11 s12 s13 h9 h3
  obtain ⟨t7, t9, t10, t11, t12, t13, k7, k9, k10, k11, k12, k13, st7⟩ := k_pairs c s hq h2 hs S2 xs dr xl dl dq s5 (.v (.d (.tup (xs.map D.int)))) (.v (.d (.tup (s.os.map fun o => D.int (gi (walk q s.ls (insR q xs)) o))))) s10 s11 s12 s13 h10 h11 h12 h13
  refine ⟨S2, .v (.d (.tup (xs.map D.int))), t7, .v (.d (.tup (s.os.map fun o => D.int (gi (walk q s.ls (insR q xs)) o)))), t9, t10, t11, t12, t13, g2, rfl, k7, rfl, k9, k10, k11, k12, k13, ?_⟩
  refine seqA st1 ?_
  simp only [MX.z7]
  clear st1 kW
  have kW := v_walk (q := q) (m := 0) (by omega) h2 s hs (P3 := .d .non) (isn := true) (pf := fun _ => 0) rfl (fun e => by cases e) (fun e => by cases e) (fun e => by cases e) (X := .d (.tup (xs.map D.int))) (X' := .d (.tup (xs.map D.int))) xs (fun s3 s4 s5 s6 s7 => by
    generalize xs.map D.int = XD
    generalize shD s = SD
    simp) xl
  rw [walkG_true] at kW
  refine seqA (o := .nx (EK c S1 q (shD s) s3 (.tup ((wforms q s).map itp)) s5 (.v (.d (.tup (xs.map D.int)))) (.v (ilO (walk q s.ls (insR q xs)))) s8 s9 s10 s11 s12 s13)) (by
    clear lc st6 st7
    unfold ilO at *
    generalize (walk q s.ls (insR q xs)).map (fun x => O.d (.int x)) = WO at *
    generalize xs.map D.int = XD at *
    generalize shD s = SD at *
    generalize D.tup ((wforms q s).map itp) = FD at *
    generalize (q : Int) = q' at *
    unfold EK
    obtain ⟨so, es⟩ : ∃ so, stO c S1 = .lst so := ⟨_, rfl⟩
    rw [es]
    simp [kW, h7]) ?_
  simp only [MX.z7]
  refine seqA (o := .nx (EK c S1 q (shD s) s3 (.tup ((wforms q s).map itp)) s5 (.v (.d (.tup (xs.map D.int)))) (.v (ilO (walk q s.ls (insR q xs)))) s8 s9 s10 s11 s12 s13)) (by
    clear lc st6 st7
    unfold ilO at *
    generalize (walk q s.ls (insR q xs)).map (fun x => O.d (.int x)) = WO at *
    generalize (walk q s.ls (insR q xs)).map D.int = WD at *
    generalize xs.map D.int = XD at *
    generalize shD s = SD at *
    generalize D.tup ((wforms q s).map itp) = FD at *
    generalize (q : Int) = q' at *
    unfold EK
    obtain ⟨so, es⟩ : ∃ so, stO c S1 = .lst so := ⟨_, rfl⟩
    rw [es]
    simp [kV, tm, sm]) ?_
  simp only [MX.z7]
  refine seqA (o := .nx (EK c S1 q (shD s) s3 (.tup ((wforms q s).map itp)) s5 (.v (.d (.tup (xs.map D.int)))) (.v (ilO (walk q s.ls (insR q xs)))) (.v (.d (.tup (s.os.map fun o => D.int (gi (walk q s.ls (insR q xs)) o))))) s9 s10 s11 s12 s13)) (by
    clear st6 st7
    generalize s.os.map (fun o => O.d (.int (gi (walk q s.ls (insR q xs)) o))) = OO at *
    generalize s.os.map (fun o => D.int (gi (walk q s.ls (insR q xs)) o)) = OD at *
    generalize s.os.map di = OI at *
    unfold ilO at *
    generalize (walk q s.ls (insR q xs)).map (fun x => O.d (.int x)) = WO at *
    generalize xs.map D.int = XD at *
    generalize shD s = SD at *
    generalize D.tup ((wforms q s).map itp) = FD at *
    generalize (q : Int) = q' at *
    obtain ⟨so, es⟩ : ∃ so, stO c S1 = .lst so := ⟨_, rfl⟩
    unfold EK at *
    rw [es] at lc
    rw [es]
    simp [i2, lc, tm2, h8]) ?_
  simp only [MX.z7]
  refine seqA (o := .nx (EK c S1 q (shD s) s3 (.tup ((wforms q s).map itp)) s5 (.v (.d (.tup (xs.map D.int)))) (.v (ilO (walk q s.ls (insR q xs)))) (.v (.d (.tup (s.os.map fun o => D.int (gi (walk q s.ls (insR q xs)) o))))) s9 s10 s11 s12 s13)) (by
    clear st6 st7 lc
    generalize s.os.map (fun o => D.int (gi (walk q s.ls (insR q xs)) o)) = OD at *
    unfold ilO at *
    generalize (walk q s.ls (insR q xs)).map (fun x => O.d (.int x)) = WO at *
    generalize xs.map D.int = XD at *
    generalize shD s = SD at *
    generalize D.tup ((wforms q s).map itp) = FD at *
    generalize (q : Int) = q' at *
    obtain ⟨so, es⟩ : ∃ so, stO c S1 = .lst so := ⟨_, rfl⟩
    unfold EK at *
    rw [es]
    simp [kR, sm2]) ?_
  simp only [MX.z7]
  refine seqA st6 ?_
  simp only [MX.z7]
  exact st7
end
end K01
set_option maxHeartbeats 8000000
namespace K01
open PySem L2 MX LA
theorem v_told (c : List Int) {q : Nat} (s : Sh) (hq : 1 < q) (h2 : q < 1000) (hs : ShOk s) (S : Sx) (h0 : 0 ≤ S.s0) : ∃ S' : Sx, 0 ≤ S'.s0 ∧ d__law_is_told [stO c S, .d (.int q), .d (shD s)] = .ok (.d (.bl true)) [some (stO c S'), some (.d (.int q)), some (.d (shD s))] := by
  have n16 := hs.n16
  have l60 := hs.l60
  have bl := bw_len s
  obtain ⟨S1, a6, a7, a8, a9, a10, a11, a12, a13, g1, p6, p7, p8, p9, p10, p11, p12, p13, tu1⟩ := k_turn c s hq h2 hs S h0 (.v (.lst ((bw s).map fun i => .d (di i)))) (.v (.d (.int ((0 : Nat) : Int)))) .no .no .no .no .no .no .no .no (.inl rfl) rfl rfl rfl rfl rfl rfl rfl rfl
  obtain ⟨S2, b6, b7, b8, b9, b10, b11, b12, b13, g2, q6, q7, q8, q9, q10, q11, q12, q13, tu2⟩ := k_turn c s hq h2 hs S1 g1 (.v (.d (.lst ((bw s).map di)))) (.v (.d (.int ((1 : Nat) : Int)))) a6 a7 a8 a9 a10 a11 a12 a13 (.inr rfl) p6 p7 p8 p9 p10 p11 p12 p13
  refine ⟨S2, g2, ?_⟩
  have lp : sForL (tName 5) l3__law_is_told (idx 0 2) (EK c S q (shD s) (.v (.lst ((bw s).map fun i => .d (di i)))) (.tup ((wforms q s).map itp)) .no .no .no .no .no .no .no .no .no) = .nx (EK c S2 q (shD s) (.v (.d (.lst ((bw s).map di)))) (.tup ((wforms q s).map itp)) (.v (.d (.int ((1 : Nat) : Int)))) b6 b7 b8 b9 b10 b11 b12 b13) := by
    rw [idx_s, idx_s, idx_0]
    refine Eq.trans (for_nx (e1 := EK c S q (shD s) (.v (.lst ((bw s).map fun i => .d (di i)))) (.tup ((wforms q s).map itp)) (.v (.d (.int ((0 : Nat) : Int)))) .no .no .no .no .no .no .no .no) ?_ tu1) ?_
    · unfold EK
      simp
    · refine Eq.trans (for_nx (e1 := EK c S1 q (shD s) (.v (.d (.lst ((bw s).map di)))) (.tup ((wforms q s).map itp)) (.v (.d (.int ((1 : Nat) : Int)))) a6 a7 a8 a9 a10 a11 a12 a13) ?_ tu2) u1
      unfold EK
      simp
  have vb := v_lbase s hs
  have vf := v_lforms (q := q) hq h2 s hs
  have kb := v_basew s hs
  have kf := v_wireforms (q := q) hq h2 s hs
  have tm := tup_m (l := bw s) (f := di)
  have s1 := same_pl 24 _ (it_nats (l := bw s) (by omega))
  have F := wforms_FQ hq h2 s hs
  have Z := (forms_zero hq h2 s hs).1
  rw [wZ_len] at Z
  have w2 := F.w2
  have s2 := same_pl 24 (.tup ((wforms q s).map itp)) (itb_tup.mpr ⟨by rw [List.length_map, Z]; omega, fun x hx => by
    obtain ⟨f, hf, rfl⟩ := List.mem_map.mp hx
    have r := (F.r f hf).1
    exact itb_tup.mpr ⟨by rw [List.length_map]; omega, fun x hx => by
      obtain ⟨i, _, rfl⟩ := List.mem_map.mp hx
      rfl⟩⟩)
  have g : gR1 [.d (.int 2)] = some (idx 0 2) := gR1_n (m := 2) (by omega)
  obtain ⟨so, es⟩ : ∃ so, stO c S = .lst so := ⟨_, rfl⟩
  obtain ⟨so2, es2⟩ : ∃ so, stO c S2 = .lst so := ⟨_, rfl⟩
  unfold EK at lp
  rw [es, es2] at lp
  rw [es, es2]
  clear tu1 tu2
  generalize (wforms q s).map itp = FD at *
  generalize (bw s).map di = BD at *
  generalize (bw s).map (fun i => O.d (di i)) = BO at *
  generalize idx 0 2 = IX at *
  generalize shD s = SD at *
  generalize (q : Int) = q' at *
  refine' R__law_is_told (e := _) ?_ ?_
  rotate_left 1
  · unfold b__law_is_told
    refine seqA (by simp [vb] <;> rfl) ?_
    simp only [MX.z7]
    refine seqA (by simp [vf] <;> rfl) ?_
    simp only [MX.z7]
    refine seqA (by simp [kb, tm, s1] <;> rfl) ?_
    simp only [MX.z7]
    refine seqA (by simp [kf, s2] <;> rfl) ?_
    simp only [MX.z7]
    refine seqA (Eq.trans (sFor_ok (by simp [g] <;> rfl)) lp) ?_
    simp only [MX.z7]
    simp
    rfl
  · rfl
theorem strNe (a : Str) : fNe (.d (.str a)) (.d (.str a)) = some (.d (.bl false)) := by
  show some (O.d (.bl (!decide (a = a)))) = _
  rw [decide_eq_true rfl]; rfl
theorem w_turn (c : List Int) (S : Sx) (h0 : 0 ≤ S.s0) (x : D) (hx : pvB 8 x = true) (P0 s2 s3 s4 s5 : Sl) : ∃ S' : Sx, 0 ≤ S'.s0 ∧
    l1_law [P0, .v (stO c S), s2, s3, s4, s5, .v (.d x)] = .nx [P0, .v (stO c S'), s2, s3, s4, s5, .v (.d x)] := by
  obtain ⟨S1, r, g1, a1, b1, k1⟩ := v_take c S h0 (lim := 2) (by omega) (by omega)
  refine ⟨S1, g1, ?_⟩
  have kc := v_lchecked (k := 8) (by omega) x hx (decide (r = 0))
  have ks := v_lissheet (k := 8) (by omega) x hx
  have ne := strNe (wrS (shB x))
  obtain ⟨so, es⟩ : ∃ so, stO c S = .lst so := ⟨_, rfl⟩
  obtain ⟨so1, es1⟩ : ∃ so, stO c S1 = .lst so := ⟨_, rfl⟩
  rw [es, es1] at k1
  rw [es, es1]
  generalize hr : decide (r = 0) = rb at *
  have er : fEq (.d (.int r)) (.d (.int 0)) = some (.d (.bl rb)) := by rw [y7, hr]
  cases hb : shB x with
  | true =>
    rw [hb] at kc ks ne
    have e : wrS true = Str.ofString "right" := rfl
    rw [e] at kc ne
    simp [k1, er, kc, ks, ne, -MX.y7]
  | false =>
    rw [hb] at kc ks ne
    have e : wrS false = Str.ofString "wrong" := rfl
    rw [e] at kc ne
    simp [k1, er, kc, ks, ne, -MX.y7]
theorem w_loop (c : List Int) (P0 s2 s3 s4 s5 : Sl) : ∀ (xs : List D) (S : Sx) (s6 : Sl), 0 ≤ S.s0 → (∀ x ∈ xs, pvB 8 x = true) → s6.pinned = false → ∃ (S' : Sx) (t6 : Sl), 0 ≤ S'.s0 ∧ t6.pinned = false ∧
    sForL (tName 6) l1_law xs [P0, .v (stO c S), s2, s3, s4, s5, s6] = .nx [P0, .v (stO c S'), s2, s3, s4, s5, t6]
  | [], S, s6, h0, _, h6 => ⟨S, s6, h0, h6, u1⟩
  | x :: xs, S, s6, h0, hx, h6 => by
    obtain ⟨S1, g1, tu⟩ := w_turn c S h0 x (hx x List.mem_cons_self) P0 s2 s3 s4 s5
    obtain ⟨S', t6, g, k6, ih⟩ := w_loop c P0 s2 s3 s4 s5 xs S1 (.v (.d x)) g1 (fun y hy => hx y (List.mem_cons_of_mem _ hy)) rfl
    refine ⟨S', t6, g, k6, ?_⟩
    rw [← ih]
    exact for_nx (e1 := [P0, .v (stO c S), s2, s3, s4, s5, .v (.d x)]) (by simp [h6]) tu
end K01
set_option maxHeartbeats 8000000
namespace K01
open PySem L2 MX LA
def wds : List D := [.lst [sAdd, sSca, sTim], .lst [sAdd, sSca, sTim], .lst [sAdd, sSca], .lst [sTim, sSca]]
def qs : List Int := [3, 5, 7, 11, 13, 31, 61, 113, 127]
theorem wds_ok : ∀ y ∈ wds, ∃ W : List D, y = .lst W ∧ (∀ x ∈ W, x = sAdd ∨ x = sTim ∨ x = sSca) ∧ 0 < W.length ∧ W.length ≤ 100 := fun y hy => by
  unfold wds at hy
  simp only [List.mem_cons, List.not_mem_nil, or_false] at hy
  rcases hy with rfl | rfl | rfl | rfl
  all_goals refine ⟨_, rfl, fun x hx => ?_, by simp, by simp⟩
  all_goals simp only [List.mem_cons, List.not_mem_nil, or_false] at hx
  · rcases hx with rfl | rfl | rfl
    · exact .inl rfl
    · exact .inr (.inr rfl)
    · exact .inr (.inl rfl)
  · rcases hx with rfl | rfl | rfl
    · exact .inl rfl
    · exact .inr (.inr rfl)
    · exact .inr (.inl rfl)
  · rcases hx with rfl | rfl
    · exact .inl rfl
    · exact .inr (.inr rfl)
  · rcases hx with rfl | rfl
    · exact .inr (.inl rfl)
    · exact .inr (.inr rfl)
theorem shD_pv (s : Sh) (hs : ShOk s) (hb : ShBig s) : pvB 8 (shD s) = true := by
  have n16 := hs.n16
  have l60 := hs.l60
  have o8 := hs.o8
  have h : pvB 5 (shD s) = true := pv_tup.mpr ⟨by simp, pv_3 (pv_i (by omega) (by omega)) (pv_tup.mpr ⟨by rw [List.length_map]; omega, lines_pv s hs hb⟩) (pv_tup.mpr ⟨by rw [List.length_map]; omega, fun x hx => pv_mono (by omega) (outs_pv s hs x hx)⟩)⟩
  exact pv_mono (by omega) h
theorem v_tk (c : List Int) (S : Sx) (h0 : 0 ≤ S.s0) (n : Nat) (hn : 0 < n) (hn2 : n ≤ 1000) : ∃ (S' : Sx) (r : Nat), 0 ≤ S'.s0 ∧ r < n ∧ d__law_take [stO c S, .d (.int (n : Int))] = .ok (.d (.int (r : Int))) [some (stO c S'), some (.d (.int (n : Int)))] := by
  obtain ⟨S1, r, g1, a1, b1, k1⟩ := v_take c S h0 (lim := (n : Int)) (by omega) (by omega)
  obtain ⟨r', rfl⟩ := Int.eq_ofNat_of_zero_le a1
  exact ⟨S1, r', g1, by omega, k1⟩
theorem x_turn (c : List Int) (S : Sx) (h0 : 0 ≤ S.s0) (P0 s2 s3 s4 s5 s6 : Sl) (h3 : s3.pinned = false) (h4 : s4.pinned = false) (h5 : s5.pinned = false) (h6 : s6.pinned = false) :
    ∃ (S' : Sx) (t3 t4 t5 t6 : Sl), 0 ≤ S'.s0 ∧ t3.pinned = false ∧ t4.pinned = false ∧ t5.pinned = false ∧ t6.pinned = false ∧ l2_law [P0, .v (stO c S), s2, s3, s4, s5, s6] = .nx [P0, .v (stO c S'), s2, t3, t4, t5, t6] := by
  obtain ⟨S1, y, g1, m1, k1⟩ := v_pickO c S h0 wds (by decide) (by decide)
  obtain ⟨W, rfl, hW, W0, W1⟩ := wds_ok y m1
  obtain ⟨S2, i7, g2, b2, k2⟩ := v_tk c S1 g1 7 (by omega) (by omega)
  obtain ⟨S3, i13, g3, b3, k3⟩ := v_tk c S2 g2 13 (by omega) (by omega)
  obtain ⟨S4, sA, g4, okA', bgA, k4⟩ := v_lsheet c S3 g3 (n := i7) (many := i13) (by omega) (by omega) W hW W0 W1
  obtain ⟨S5, i8, g5, b5, k5⟩ := v_tk c S4 g4 8 (by omega) (by omega)
  obtain ⟨S6, s, g6, ok, bg, st3⟩ : ∃ (S6 : Sx) (s : Sh), 0 ≤ S6.s0 ∧ ShOk s ∧ ShBig s ∧ (sIf (dTst (dBin fEq (vT (dCallF d__law_take [0, 1] (cCons (gName 1) (cCons (gVal (dC (.int 8))) cNil)))) (vT (dC (.int 0))))) (sAsg (dCallF d__law_sheet [0, 1, 2, 3] (cCons (gName 1) (cCons (gVal (dC (.int 16))) (cCons (gVal (dC (.int 60))) (cCons (gName 3) cNil))))) (tName 4)) sNext) [P0, .v (stO c S4), s2, .v (.d (.lst W)), .v (.d (shD sA)), s5, s6] = .nx [P0, .v (stO c S6), s2, .v (.d (.lst W)), .v (.d (shD s)), s5, s6] := by
    have k5 : d__law_take [stO c S4, .d (.int 8)] = .ok (.d (.int (i8 : Int))) [some (stO c S5), some (.d (.int 8))] := k5
    by_cases h8 : (i8 : Int) = 0
    · obtain ⟨S6, s, g6, ok, bg, k6⟩ := v_lsheet c S5 g5 (n := 16) (many := 60) (by omega) (by omega) W hW W0 W1
      refine ⟨S6, s, g6, ok, bg, ?_⟩
      have k6 : d__law_sheet [stO c S5, .d (.int 16), .d (.int 60), .d (.lst W)] = .ok (.d (shD s)) [some (stO c S6), some (.d (.int 16)), some (.d (.int 60)), some (.d (.lst W))] := k6
      generalize shD s = SD at *
      generalize shD sA = SA at *
      generalize (i8 : Int) = j8 at *
      obtain ⟨so4, es4⟩ : ∃ so, stO c S4 = .lst so := ⟨_, rfl⟩
      obtain ⟨so5, es5⟩ : ∃ so, stO c S5 = .lst so := ⟨_, rfl⟩
      obtain ⟨so6, es6⟩ : ∃ so, stO c S6 = .lst so := ⟨_, rfl⟩
      rw [es4, es5] at k5
      rw [es5, es6] at k6
      rw [es4, es6]
      simp [k5, h8, k6]
    · refine ⟨S5, sA, g5, okA', bgA, ?_⟩
      generalize shD sA = SA at *
      generalize (i8 : Int) = j8 at *
      obtain ⟨so4, es4⟩ : ∃ so, stO c S4 = .lst so := ⟨_, rfl⟩
      obtain ⟨so5, es5⟩ : ∃ so, stO c S5 = .lst so := ⟨_, rfl⟩
      rw [es4, es5] at k5
      rw [es4, es5]
      simp [k5, h8]
  obtain ⟨S7, qq, g7, m7, k7⟩ := v_pickL c S6 g6 qs (by decide) (by decide)
  obtain ⟨q, hq1, hq2, rfl⟩ : ∃ q : Nat, 1 < q ∧ q < 1000 ∧ qq = (q : Int) := by
    unfold qs at m7
    simp only [List.mem_cons, List.not_mem_nil, or_false] at m7
    refine ⟨qq.toNat, ?_, ?_, ?_⟩ <;> omega
  obtain ⟨S8, g8, k8⟩ := v_told c s hq1 hq2 ok S7 g7
  obtain ⟨S9, fs, g9, pf, lf, k9⟩ := v_lfaults c S8 g8 s ok bg
  obtain ⟨Sa, r, ga, mr, lr, ka⟩ := v_lshuf c S9 g9 fs (by omega)
  have pS := shD_pv s ok bg
  obtain ⟨Sb, t6, gb, p6, lp⟩ := w_loop c P0 s2 (.v (.d (.lst W))) (.v (.d (shD s))) (.v (.d (.int (q : Int)))) ([shD s, shD s] ++ r.take 40) Sa s6 ga (fun x hx => by
    rcases List.mem_append.mp hx with hx | hx
    · exact pv_2 (P := fun x => pvB 8 x = true) pS pS x hx
    · exact pf x (mr x (List.mem_of_mem_take hx))) h6
  refine ⟨Sb, .v (.d (.lst W)), .v (.d (shD s)), .v (.d (.int (q : Int))), t6, gb, rfl, rfl, rfl, p6, ?_⟩
  have sl : fSl (.lst (r.map O.d)) none (some 40) = some (.lst ((r.take 40).map O.d)) := fSl_o (f := fun x => x) (j := 40)
  have ca : fAdd (.lst [.d (shD s), .d (shD s)]) (.lst ((r.take 40).map O.d)) = some (.lst (([shD s, shD s] ++ r.take 40).map O.d)) := ls_cat (xs := [shD s, shD s]) (by rw [List.length_take]; simp; omega)
  have fz : fzs (([shD s, shD s] ++ r.take 40).map O.d) = [shD s, shD s] ++ r.take 40 := fzs_leaf _
  have z2 : (2 : Nat) ≤ sizeLine := by decide
  have z3 : (3 : Nat) ≤ sizeLine := by decide
  have z4 : (4 : Nat) ≤ sizeLine := by decide
  have z9 : (9 : Nat) ≤ sizeLine := by decide
  have k1 : d__law_pick [stO c S, .lst [.d (.lst [.str (Str.ofString "add"), .str (Str.ofString "scale"), .str (Str.ofString "times")]), .d (.lst [.str (Str.ofString "add"), .str (Str.ofString "scale"), .str (Str.ofString "times")]), .d (.lst [.str (Str.ofString "add"), .str (Str.ofString "scale")]), .d (.lst [.str (Str.ofString "times"), .str (Str.ofString "scale")])]] = .ok (.d (.lst W)) [some (stO c S1), some (.lst [.d (.lst [.str (Str.ofString "add"), .str (Str.ofString "scale"), .str (Str.ofString "times")]), .d (.lst [.str (Str.ofString "add"), .str (Str.ofString "scale"), .str (Str.ofString "times")]), .d (.lst [.str (Str.ofString "add"), .str (Str.ofString "scale")]), .d (.lst [.str (Str.ofString "times"), .str (Str.ofString "scale")])])] := k1
  have k2 : d__law_take [stO c S1, .d (.int 7)] = .ok (.d (.int (i7 : Int))) [some (stO c S2), some (.d (.int 7))] := k2
  have k3 : d__law_take [stO c S2, .d (.int 13)] = .ok (.d (.int (i13 : Int))) [some (stO c S3), some (.d (.int 13))] := k3
  have k7 : d__law_pick [stO c S6, .lst [.d (.int 3), .d (.int 5), .d (.int 7), .d (.int 11), .d (.int 13), .d (.int 31), .d (.int 61), .d (.int 113), .d (.int 127)]] = .ok (.d (.int (q : Int))) [some (stO c S7), some (.lst [.d (.int 3), .d (.int 5), .d (.int 7), .d (.int 11), .d (.int 13), .d (.int 31), .d (.int 61), .d (.int 113), .d (.int 127)])] := k7
  have f1 : (O.lst [.d (.str (Str.ofString "add")), .d (.str (Str.ofString "scale")), .d (.str (Str.ofString "times"))]).fz = .lst [.str (Str.ofString "add"), .str (Str.ofString "scale"), .str (Str.ofString "times")] := rfl
  have f2 : (O.lst [.d (.str (Str.ofString "add")), .d (.str (Str.ofString "scale"))]).fz = .lst [.str (Str.ofString "add"), .str (Str.ofString "scale")] := rfl
  have f3 : (O.lst [.d (.str (Str.ofString "times")), .d (.str (Str.ofString "scale"))]).fz = .lst [.str (Str.ofString "times"), .str (Str.ofString "scale")] := rfl
  clear m1 pf mr lf lr
  generalize ([shD s, shD s] ++ r.take 40).map O.d = R1 at *
  generalize [shD s, shD s] ++ r.take 40 = R2 at *
  generalize (r.take 40).map O.d = R3 at *
  generalize r.map O.d = R4 at *
  generalize fs.map O.d = R5 at *
  generalize shD s = SD at *
  generalize shD sA = SA at *
  generalize (q : Int) = q' at *
  generalize (i7 : Int) = j7 at *
  generalize (i13 : Int) = j13 at *
  obtain ⟨so, es⟩ : ∃ so, stO c S = .lst so := ⟨_, rfl⟩
  obtain ⟨so1, es1⟩ : ∃ so, stO c S1 = .lst so := ⟨_, rfl⟩
  obtain ⟨so2, es2⟩ : ∃ so, stO c S2 = .lst so := ⟨_, rfl⟩
  obtain ⟨so3, es3⟩ : ∃ so, stO c S3 = .lst so := ⟨_, rfl⟩
  obtain ⟨so4, es4⟩ : ∃ so, stO c S4 = .lst so := ⟨_, rfl⟩
  obtain ⟨so6, es6⟩ : ∃ so, stO c S6 = .lst so := ⟨_, rfl⟩
  obtain ⟨so7, es7⟩ : ∃ so, stO c S7 = .lst so := ⟨_, rfl⟩
  obtain ⟨so8, es8⟩ : ∃ so, stO c S8 = .lst so := ⟨_, rfl⟩
  obtain ⟨so9, es9⟩ : ∃ so, stO c S9 = .lst so := ⟨_, rfl⟩
  obtain ⟨soa, esa⟩ : ∃ so, stO c Sa = .lst so := ⟨_, rfl⟩
  obtain ⟨sob, esb⟩ : ∃ so, stO c Sb = .lst so := ⟨_, rfl⟩
  rw [es, es1] at k1
  rw [es1, es2] at k2
  rw [es2, es3] at k3
  rw [es3, es4] at k4
  rw [es4, es6] at st3
  rw [es6, es7] at k7
  rw [es7, es8] at k8
  rw [es8, es9] at k9
  rw [es9, esa] at ka
  rw [esa, esb] at lp
  rw [es, esb]
  refine seqA (o := .nx [P0, .v (.lst so1), s2, .v (.d (.lst W)), s4, s5, s6]) (by simp [k1, z2, z3, z4, f1, f2, f3, h3]) ?_
  simp only [MX.z7]
  refine seqA (o := .nx [P0, .v (.lst so4), s2, .v (.d (.lst W)), .v (.d SA), s5, s6]) (by simp [k2, k3, k4, z_late, h4]) ?_
  simp only [MX.z7]
  refine seqA st3 ?_
  simp only [MX.z7]
  refine seqA (o := .nx [P0, .v (.lst so7), s2, .v (.d (.lst W)), .v (.d SD), .v (.d (.int q')), s6]) (by simp [k7, z9, h5]) ?_
  simp only [MX.z7]
  refine seqA (o := .nx [P0, .v (.lst so8), s2, .v (.d (.lst W)), .v (.d SD), .v (.d (.int q')), s6]) (by simp [k8]) ?_
  simp only [MX.z7]
  refine Eq.trans (sFor_ok (by simp [k9, ka, z_late, z2, sl, ca, fz] <;> rfl)) lp
theorem value_law (ns : List Int) (hn : ns.length ≤ 63) : ∃ ps, d_law [.d (.lst (ns.map D.int))] = .ok (.d (.bl true)) ps := by
  obtain ⟨z, z0, k0⟩ := v_start ns hn
  obtain ⟨S1, a3, a4, a5, a6, g1, p3, p4, p5, p6, tu1⟩ := x_turn ns ⟨0, 0, 0, z, 0⟩ (Int.le_refl 0) (.p (.d (.lst (ns.map D.int)))) (.v (.d (.int ((0 : Nat) : Int)))) .no .no .no .no rfl rfl rfl rfl
  obtain ⟨S2, b3, b4, b5, b6, g2, q3, q4, q5, q6, tu2⟩ := x_turn ns S1 g1 (.p (.d (.lst (ns.map D.int)))) (.v (.d (.int ((1 : Nat) : Int)))) a3 a4 a5 a6 p3 p4 p5 p6
  have lp : sForL (tName 2) l2_law (idx 0 2) [.p (.d (.lst (ns.map D.int))), .v (stO ns ⟨0, 0, 0, z, 0⟩), .no, .no, .no, .no, .no] = .nx [.p (.d (.lst (ns.map D.int))), .v (stO ns S2), .v (.d (.int ((1 : Nat) : Int))), b3, b4, b5, b6] := by
    rw [idx_s, idx_s, idx_0]
    refine Eq.trans (for_nx (e1 := [.p (.d (.lst (ns.map D.int))), .v (stO ns ⟨0, 0, 0, z, 0⟩), .v (.d (.int ((0 : Nat) : Int))), .no, .no, .no, .no]) (by simp) tu1) ?_
    exact Eq.trans (for_nx (e1 := [.p (.d (.lst (ns.map D.int))), .v (stO ns S1), .v (.d (.int ((1 : Nat) : Int))), a3, a4, a5, a6]) (by simp) tu2) u1
  have g : gR1 [.d (.int 2)] = some (idx 0 2) := gR1_n (m := 2) (by omega)
  obtain ⟨so, es⟩ : ∃ so, stO ns ⟨0, 0, 0, z, 0⟩ = .lst so := ⟨_, rfl⟩
  obtain ⟨so2, es2⟩ : ∃ so, stO ns S2 = .lst so := ⟨_, rfl⟩
  rw [es] at k0
  rw [es, es2] at lp
  clear tu1 tu2
  generalize ns.map D.int = N at *
  generalize idx 0 2 = IX at *
  refine' ⟨_, R_law (e := [.p (.d (.lst N)), .v (.lst so2), .v (.d (.int ((1 : Nat) : Int))), b3, b4, b5, b6]) ?_⟩
  unfold b_law
  refine seqA (by simp [k0] <;> rfl) ?_
  simp only [MX.z7]
  refine seqA (Eq.trans (sFor_ok (by simp [g] <;> rfl)) lp) ?_
  simp only [MX.z7]
  simp
end K01
open PySem PySem.W PyProof.Rows
set_option maxHeartbeats 0 in
theorem PySem.Challenge.cw_hushsheets_k01_sheets_and_their_wires_holds : PySem.Challenge.rw_hushsheets_k01_sheets_and_their_wires.Holds := by
  w_on; o_law; k_head; (case hw => w_witness2)
  k_fill
  refine L2.walk_of (l := PySem.Challenge.rw_hushsheets_k01_sheets_and_their_wires) (n := 63) (k := 26) (x := "script") (CX := fun w => L2.CX PySem.Challenge.rw_hushsheets_k01_sheets_and_their_wires.prog w) (sp := fun w => MX.spLaw _) rfl (by decide) rfl ⟨rfl, by decide, by decide⟩ (fun w h Y => PySem.W.kIn_of Y) ?F (fun _ _ a ns hl _ hS => ⟨a, ns, rfl, hS, hl, fun _ => rfl⟩) (fun _ _ _ _ _ ⟨_, _, _, _, _, _, _, _, _, _, _, _, h⟩ => h)
  case F =>
    intro w mg fa h KX G hmg
    refine' K01.all_mk KX G hmg ?a0 ?l0 ?c0 ?k0 ?a1 ?l1 ?c1 ?k1 ?a2 ?l2 ?c2 ?k2 ?a3 ?l3 ?c3 ?k3 ?a4 ?l4 ?c4 ?k4 ?a5 ?l5 ?c5 ?k5 ?a6 ?l6 ?c6 ?k6 ?a7 ?l7 ?c7 ?k7 ?a8 ?l8 ?c8 ?k8 ?a9 ?l9 ?c9 ?k9 ?a10 ?l10 ?c10 ?k10 ?a11 ?l11 ?c11 ?k11 ?a12 ?l12 ?c12 ?k12 ?a13 ?l13 ?c13 ?k13 ?a14 ?l14 ?c14 ?k14 ?a15 ?l15 ?c15 ?k15 ?a16 ?l16 ?c16 ?k16 ?a17 ?l17 ?c17 ?k17 ?a18 ?l18 ?c18 ?k18 ?a19 ?l19 ?c19 ?k19 ?a20 ?l20 ?c20 ?k20 ?a21 ?l21 ?c21 ?k21 ?a22 ?l22 ?c22 ?k22 ?a23 ?l23 ?c23 ?k23 ?a24 ?l24 ?c24 ?k24 ?a25 ?l25 ?c25 ?k25 ?a26 ?l26 ?c26 ?k26 ?a27 ?l27 ?c27 ?k27 ?a28 ?l28 ?c28 ?k28 ?a29 ?l29 ?c29 ?k29 ?a30 ?l30 ?c30 ?k30 ?gi_MOST_INPUTS ?gi_MOST_LINES ?gi_MOST_NUMBER ?gi_MOST_OUTS ?gc_BadSheet ?k_BadSheet ?q_BadSheet ?b_BadSheet ?t_BadSheet ?ehg_BadSheet ?ehk_BadSheet ?ehs_BadSheet ?ehd_BadSheet ?eha_BadSheet ?ehm_BadSheet ?ehn ?eht ?x_BadSheet_BadSheet ?z_abs ?z_all ?z_bool ?z_enumerate ?z_int ?z_isinstance ?z_len ?z_list ?z_range ?z_str ?z_sum ?z_tuple ?z_zip ?nl K01.value_law
    (case a0 => k_is)
    (case l0 => k_is)
    (case c0 => k_is)
    (case k0 => k_is)
    (case a1 => k_is)
    (case l1 => k_is)
    (case c1 => k_is)
    (case k1 => k_is)
    (case a2 => k_is)
    (case l2 => k_is)
    (case c2 => k_is)
    (case k2 => k_is)
    (case a3 => k_is)
    (case l3 => k_is)
    (case c3 => k_is)
    (case k3 => k_is)
    (case a4 => k_is)
    (case l4 => k_is)
    (case c4 => k_is)
    (case k4 => k_is)
    (case a5 => k_is)
    (case l5 => k_is)
    (case c5 => k_is)
    (case k5 => k_is)
    (case a6 => k_is)
    (case l6 => k_is)
    (case c6 => k_is)
    (case k6 => k_is)
    (case a7 => k_is)
    (case l7 => k_is)
    (case c7 => k_is)
    (case k7 => k_is)
    (case a8 => k_is)
    (case l8 => k_is)
    (case c8 => k_is)
    (case k8 => k_is)
    (case a9 => k_is)
    (case l9 => k_is)
    (case c9 => k_is)
    (case k9 => k_is)
    (case a10 => k_is)
    (case l10 => k_is)
    (case c10 => k_is)
    (case k10 => k_is)
    (case a11 => k_is)
    (case l11 => k_is)
    (case c11 => k_is)
    (case k11 => k_is)
    (case a12 => k_is)
    (case l12 => k_is)
    (case c12 => k_is)
    (case k12 => k_is)
    (case a13 => k_is)
    (case l13 => k_is)
    (case c13 => k_is)
    (case k13 => k_is)
    (case a14 => k_is)
    (case l14 => k_is)
    (case c14 => k_is)
    (case k14 => k_is)
    (case a15 => k_is)
    (case l15 => k_is)
    (case c15 => k_is)
    (case k15 => k_is)
    (case a16 => k_is)
    (case l16 => k_is)
    (case c16 => k_is)
    (case k16 => k_is)
    (case a17 => k_is)
    (case l17 => k_is)
    (case c17 => k_is)
    (case k17 => k_is)
    (case a18 => k_is)
    (case l18 => k_is)
    (case c18 => k_is)
    (case k18 => k_is)
    (case a19 => k_is)
    (case l19 => k_is)
    (case c19 => k_is)
    (case k19 => k_is)
    (case a20 => k_is)
    (case l20 => k_is)
    (case c20 => k_is)
    (case k20 => k_is)
    (case a21 => k_is)
    (case l21 => k_is)
    (case c21 => k_is)
    (case k21 => k_is)
    (case a22 => k_is)
    (case l22 => k_is)
    (case c22 => k_is)
    (case k22 => k_is)
    (case a23 => k_is)
    (case l23 => k_is)
    (case c23 => k_is)
    (case k23 => k_is)
    (case a24 => k_is)
    (case l24 => k_is)
    (case c24 => k_is)
    (case k24 => k_is)
    (case a25 => k_is)
    (case l25 => k_is)
    (case c25 => k_is)
    (case k25 => k_is)
    (case a26 => k_is)
    (case l26 => k_is)
    (case c26 => k_is)
    (case k26 => k_is)
    (case a27 => k_is)
    (case l27 => k_is)
    (case c27 => k_is)
    (case k27 => k_is)
    (case a28 => k_is)
    (case l28 => k_is)
    (case c28 => k_is)
    (case k28 => k_is)
    (case a29 => k_is)
    (case l29 => k_is)
    (case c29 => k_is)
    (case k29 => k_is)
    (case a30 => k_is)
    (case l30 => k_is)
    (case c30 => k_is)
    (case k30 => k_is)
    (case gi_MOST_INPUTS => k_is)
    (case gi_MOST_LINES => k_is)
    (case gi_MOST_NUMBER => k_is)
    (case gi_MOST_OUTS => k_is)
    (case gc_BadSheet => k_is)
    (case k_BadSheet => k_is)
    (case q_BadSheet => kernel_rfl)
    (case b_BadSheet => k_is)
    (case t_BadSheet => k_is)
    (case ehg_BadSheet => k_is)
    (case ehk_BadSheet => k_is)
    (case ehs_BadSheet => k_is)
    (case ehd_BadSheet => k_is)
    (case eha_BadSheet => k_is)
    (case ehm_BadSheet => k_is)
    (case ehn => k_is)
    (case eht => k_is)
    (case x_BadSheet_BadSheet => kernel_rfl)
    (case z_abs => k_is)
    (case z_all => k_is)
    (case z_bool => k_is)
    (case z_enumerate => k_is)
    (case z_int => k_is)
    (case z_isinstance => k_is)
    (case z_len => k_is)
    (case z_list => k_is)
    (case z_range => k_is)
    (case z_str => k_is)
    (case z_sum => k_is)
    (case z_tuple => k_is)
    (case z_zip => k_is)
    (case nl => kernel_rfl)
