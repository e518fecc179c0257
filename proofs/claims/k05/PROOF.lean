import PyProof.Rows.All
import Wide.All
import OpenK.AllK
import Wide.FinOn
import HandS.ForMost
import HandS.ForExc
import HandS.TupAny
import HandS.TupMul
import HandS.Conv
import HandS.Wide
import HandS.Star
import HandS.CallSlots
import HandS.Zip
import HandS.Rev
import HandS.Comp
import HandS.Dict
import HandS.IsInst
import HandS.TryMany
import HandS.ExcIs
import KE.GoesEnum
import HandS.Steps
import HandS.SortInts
import HandS.WordsDict
import HandS.Small
import KE.KIndexOf
import PyProof.ExcBaseAll.ValueError
import KE.KSuper
import HandS.Nested
import HandS.More
import HandS.DictComp
import PySem.Challenge.RW_hushsheets_k05_power_groups
set_option Elab.async false
set_option linter.all false
set_option maxRecDepth 100000
set_option maxHeartbeats 4000000
/-! MXt: tuples tracked with their object (no dict): the kit's rules that make tuples, told anew. -/
namespace MX
open PySem L2 PySem.Spec PyProof.Rows
section
variable {X : Cx} {pos : Pos} {es : List Expr}
def tTupN (t : TA) : TE := fun σ H Q => t σ H fun xs H1 => xs.length ≤ sizeLine ∧ ∀ p o, H1 p = none → o.dict = none → Q (.ref p) (upd H1 p (.frz o (.tup xs)))
theorem pe_tupN {x1} {t : TA} (h : PA X es t) : PE X (.Tuple es x1 pos) (tTupN t) := by
  refine ⟨fun pins s σ H Q I hq => ?_⟩
  refine wpAny_Tuple_spliced (thn (h.run pos pins s σ H _ I hq) fun us s1 ⟨xs, H1, I1, r, z, q⟩ => ⟨by rw [← r.length]; exact z, ?_⟩)
  have hf : H1 s1.heap.objs.size = none := I1.hok.fresh (Nat.le_refl _)
  refine ⟨.ref s1.heap.objs.size, upd H1 s1.heap.objs.size (.frz { cls := .type "tuple", data := .seq us.toArray } (.tup xs)), I1.laid (t' := s1.toks) (fun b u e => Heap.get?_push_of_some _ e) (Nat.le_refl _) ?_, rfl, q _ _ hf rfl⟩
  exact ⟨Heap.get?_push_size _ rfl, z, us, r, ⟨_, Heap.get?_push_size _ rfl, rfl, _, rfl⟩⟩
def rTupOf (K : PySem.W.Frag) : List V → Hp → VK → Prop := fun xs H Q => ∃ p ys, xs = [.ref p] ∧ ((SqL K H p ys ∧ ∀ l o, H l = none → o.dict = none → Q (.ref l) (upd H l (.frz o (.tup ys)))) ∨ (SqT K H p ys ∧ Q (.ref p) H))
theorem call_tupleN : CallR X (.type "tuple") (rTupOf X.K) := by
  intro pins s σ H xs us Q I r h
  obtain ⟨p, ys, rfl, h⟩ := h
  obtain ⟨u, rfl, rx⟩ := vals1 r
  cases rx
  rcases h with ⟨hq, q⟩ | ⟨hq, q⟩
  · obtain ⟨its, r', pl, hz⟩ := I.list hq
    have hlen := r'.length
    refine call_tuple_list pl.isList (fun h' kp => ?_) (by simp only [List.size_toArray] <;> omega)
    have I1 : Inv X pins σ H { s with heap := h' } := I.kept (t' := s.toks) kp
    have I2 : Inv X pins σ (upd H h'.objs.size (.frz { cls := .type "tuple", data := .seq its.toArray } (.tup ys))) { s with heap := h'.push { cls := .type "tuple", data := .seq its.toArray } } :=
      I1.laid (t' := s.toks) (fun b o e => Heap.get?_push_of_some _ e) (Nat.le_refl _) ⟨Heap.get?_push_size _ rfl, hz, its, r', IsTup.new _ _⟩
    exact ⟨.ref h'.objs.size, _, I2, rfl, q _ _ (I1.hok.fresh (Nat.le_refl _)) rfl⟩
  · obtain ⟨its, r', pl, hz⟩ := I.tuple hq
    exact call_tuple_same pl ⟨.ref p, H, I, rfl, q⟩
def rCatN (K : PySem.W.Frag) : R2 := fun x y H Q => ∃ a b xs ys, x = .ref a ∧ y = .ref b ∧ SqT K H a xs ∧ SqT K H b ys ∧ xs.length + ys.length ≤ sizeLine ∧
  (xs = [] → Q (.ref b) H) ∧ (xs ≠ [] → ys = [] → Q (.ref a) H) ∧ (xs ≠ [] → ys ≠ [] → ∀ p o, H p = none → o.dict = none → Q (.ref p) (upd H p (.frz o (.tup (xs ++ ys)))))
theorem op_catN : OpR X (binaryOp .Add) (rCatN X.K) := by
  intro pins s σ H x y v u Q I rx ry h
  obtain ⟨a, b, xs, ys, rfl, rfl, ha, hb, hz, q0, q1, q2⟩ := h
  by_cases hx : xs = []
  · exact op_catA pins s σ H _ _ v u Q I rx ry ⟨a, b, xs, ys, rfl, rfl, ha, hb, hz, q0, q1, fun z => absurd hx z⟩
  · by_cases hy : ys = []
    · exact op_catA pins s σ H _ _ v u Q I rx ry ⟨a, b, xs, ys, rfl, rfl, ha, hb, hz, q0, q1, fun _ z => absurd hy z⟩
    · cases rx
      cases ry
      obtain ⟨its, r1, p1, _⟩ := I.tuple ha
      obtain ⟨its2, r2, p2, _⟩ := I.tuple hb
      refine HT.cat_tup p1 p2 (fun z => hx (r1.nil_iff.mp z)) (fun z => absurd (r2.nil_iff.mp z) hy) (fun z => ?_) (by rw [← r1.length, ← r2.length]; exact hz)
      refine ⟨.ref s.heap.objs.size, _, I.laid (t' := s.toks) (o := .frz _ (.tup (xs ++ ys))) (fun b ob q => Heap.get?_push_of_some _ q) (Nat.le_refl _) ⟨Heap.get?_push_size _ rfl, by rw [List.length_append]; exact hz, _, r1.append r2, IsTup.new _ _⟩, rfl, q2 hx hy _ _ (I.hok.fresh (Nat.le_refl _)) rfl⟩
def rSlN (K : PySem.W.Frag) : V → Option Int → Option Int → Hp → VK → Prop := fun x lo hi H Q => ∃ a xs, x = .ref a ∧ SqT K H a xs ∧
  (HT.sIx xs.length 0 lo = 0 ∧ HT.sIx xs.length xs.length hi = xs.length → Q (.ref a) H) ∧ (¬ (HT.sIx xs.length 0 lo = 0 ∧ HT.sIx xs.length xs.length hi = xs.length) → ∀ p o, H p = none → o.dict = none → Q (.ref p) (upd H p (.frz o (.tup (cutV xs lo hi)))))
theorem sl_tupN : SlR X (rSlN X.K) := by
  intro pins s σ H x v vl vu lo hi sl Q I rx hs pl pu h
  obtain ⟨a, xs, rfl, hx, q1, q2⟩ := h
  by_cases hw : HT.sIx xs.length 0 lo = 0 ∧ HT.sIx xs.length xs.length hi = xs.length
  · exact sl_tupA pins s σ H _ v vl vu lo hi sl Q I rx hs pl pu ⟨a, xs, rfl, hx, q1, fun z => absurd hw z⟩
  · cases rx
    obtain ⟨its, r, ht, hz⟩ := I.tuple hx
    have hlen : its.toArray.size = xs.length := by rw [List.size_toArray]; exact r.length.symm
    refine ⟨"tuple", _, PyProof.Rows.slot_tuple_getitem.lookup, ht.typeIs, ?_⟩
    refine HT.getItem_tuple_cut ht hs pl pu (by rw [hlen]; exact hw) ?_ (by rw [hlen]; exact hz)
    rw [hlen]
    refine ⟨.ref s.heap.objs.size, _, I.laid (t' := s.toks) (o := .frz _ (.tup (cutV xs lo hi))) (fun b ob q => Heap.get?_push_of_some _ q) (Nat.le_refl _) ⟨Heap.get?_push_size _ rfl, Nat.le_trans (cutV_length xs lo hi) hz, _, (r.drop (HT.sIx xs.length 0 lo)).take (HT.sIx xs.length xs.length hi - HT.sIx xs.length 0 lo), IsTup.new _ _⟩, rfl, q2 hw _ _ (I.hok.fresh (Nat.le_refl _)) rfl⟩
def rRepN (K : PySem.W.Frag) : R2 := fun x y H Q => ∃ l k xs, x = .ref l ∧ y = .int k ∧ SqT K H l xs ∧ xs ≠ [] ∧ 2 ≤ k ∧ k ≤ 1000 ∧ xs.length ≤ 1000 ∧ ∀ p o, H p = none → o.dict = none → Q (.ref p) (upd H p (.frz o (.tup (List.replicate k.toNat xs).flatten)))
theorem op_repN : OpR X (binaryOp .Mult) (rRepN X.K) := by
  intro pins s σ H x y v u Q I rx ry h
  obtain ⟨l, k, xs, rfl, rfl, hT, hne, h1, h2, hz, q⟩ := h
  cases rx
  obtain ⟨t, rfl⟩ := ry
  obtain ⟨its, r, ⟨⟨cls, dd, data, sl⟩, ho, hc, n, hd⟩, hs⟩ := I.tuple hT
  simp only at hc hd
  subst hc hd
  have hle : its.length = xs.length := r.length.symm
  have hn : its ≠ [] := fun e => hne (by
    rw [e] at hle
    exact List.eq_nil_of_length_eq_zero hle.symm)
  have hi : its.toArray.isEmpty = false := by
    cases its with
    | nil => exact absurd rfl hn
    | cons a b => rfl
  have hsz0 : its.toArray.size = xs.length := by rw [List.size_toArray, hle]
  have hm : ((its.toArray.size : Nat) : Int) * k ≤ 1000000 := by
    rw [hsz0]
    have a1 : ((xs.length : Nat) : Int) * k ≤ 1000 * k := Int.mul_le_mul_of_nonneg_right (by omega) (by omega)
    omega
  have flen : (List.replicate k.toNat its).flatten.length ≤ sizeLine := by
    rw [PyProof.Rows.lm_len_rep_flat, hle, sizeLine_eq]
    have a1 : k.toNat * xs.length ≤ 1000 * 1000 := Nat.mul_le_mul (by omega) hz
    omega
  have c0 : (decide (k < -(2 ^ 63)) || decide (k ≥ 2 ^ 63)) = false := by
    rw [decide_eq_false (by omega), decide_eq_false (by omega)] <;> rfl
  have c1 : (its.toArray.isEmpty || k == 1) = false := by
    rw [hi, Bool.false_or]
    exact beq_eq_false_iff_ne.mpr (by omega)
  have c2 : (decide (k ≤ 0) || its.toArray.isEmpty) = false := by
    rw [hi, Bool.or_false]
    exact decide_eq_false (by omega)
  have c4 : Builtin.Tuple.tupleTooMany (((its.toArray.size : Nat) : Int) * k) = false := by
    unfold Builtin.Tuple.tupleTooMany
    rw [sizeLine_eq]
    exact decide_eq_false (by omega)
  refine wpAny_binaryOp_repeat_ref (T := "tuple") (U := "int") (by decide) ⟨_, ho, rfl⟩ (fun s' => typeIs_int s' k t) noFill_tuple_mul F.fills_int_mul F.slot_int_rmul repeat_tuple F.slot_int_index.lookup
    (call_meets F.slot_int_rmul (typeIs_int s k t) F.entry_int_rmul (F.args_int_rmul_2 _ _) (int_rmul_tuple k t l its.toArray n dd sl)
      ⟨ho, rfl, ⟨_, ho, rfl⟩, call_meets F.slot_tuple_mul ⟨_, ho, rfl⟩ F.entry_tuple_mul (F.args_tuple_mul_2 _ _) (tuple_mulW l its.toArray n dd sl k t c0 c1 c2 (by omega) c4 (by rw [size_rep, List.size_toArray]; exact flen)) ⟨ho, ?_⟩⟩)
  rw [size_rep]
  refine ⟨.ref s.heap.objs.size, _, I.laid (t' := s.toks) (o := .frz { cls := .type "tuple", data := .seq (List.replicate k.toNat its).flatten.toArray } (.tup (List.replicate k.toNat xs).flatten)) (fun b ob q => Heap.get?_push_of_some _ q) (Nat.le_refl _) ?_, rfl, q _ _ (I.hok.fresh (Nat.le_refl _)) rfl⟩
  exact ⟨Heap.get?_push_size _ rfl, by rw [PyProof.Rows.lm_len_rep_flat, sizeLine_eq]; have a1 : k.toNat * xs.length ≤ 1000 * 1000 := Nat.mul_le_mul (by omega) hz; omega, _, r.rep k.toNat, IsTup.new _ _⟩
def tTupRgN (te : L2.St → Hp → (Int → Int → Hp → Prop) → Prop) : TE := fun σ H Q => te σ H fun a b H1 => RgOk a b ∧ ∀ q o, H1 q = none → o.dict = none → Q (.ref q) (upd H1 q (.frz o (.tup (rgV a b))))
theorem pe_tupRgN {e : Expr} {te} {p pos : Pos} (hc : X.calm = true) (hg : Gl X "tuple") (hm : X.mg "tuple" = none) (he : PRg X e te) (na : starEach [e] X.env = (false, eval e X.env) :: starEach [] X.env := by rfl) : PE X (.Call (.Name "tuple" p) [e] [] pos) (tTupRgN te) := by
  refine ⟨fun pins s σ H Q I h => ?_⟩
  refine Call_ (ld_blt I hg hm boot_tuple (PyProof.Rows.callWith_type1 (args_cons (thn (he pins s σ H _ I h) fun x s1 ⟨r, a, b, t, u, v, H1, ex, hr, I1, ok, q⟩ => args_nil ?_) na) na))
  subst ex
  obtain ⟨b1, b2, b3, b4, b5⟩ := ok
  refine call_tuple_range (n := (b - a).toNat) (I1.ok.hd hc) hr (small_one b1 b2 b3 b4) (rangeSize_nat a b) b5 fun h' tk acc hk hi => ?_
  have I2 : Inv X pins σ H1 { s1 with heap := h', toks := tk } := I1.kept hk
  refine ⟨.ref h'.objs.size, upd H1 h'.objs.size (.frz _ (.tup (rgV a b))), I2.laid (t' := tk) (fun c o e => Heap.get?_push_of_some _ e) (Nat.le_refl _) ⟨Heap.get?_push_size _ rfl, ?_, acc.toList, vals_rg hi, ?_⟩, rfl, q _ _ (I2.hok.fresh (Nat.le_refl _)) rfl⟩
  · rw [rgV_length, sizeLine_eq]; omega
  · rw [Array.toArray_toList]; exact IsTup.new _ _
/-- the tuple at a: tracked with its object, or written -/
def TupAt (K : PySem.W.Frag) (H : Hp) (a : Addr) (vs : List V) : Prop :=
  (∃ o, H a = some (.frz o (.tup vs)) ∧ o.dict = none) ∨ ((∃ o, K.lookup a = some o ∧ o.cls = .type "tuple" ∧ o.dict = none) ∧ ∀ H' : Hp, SqT K H' a vs)
theorem TupAt.sq {K : PySem.W.Frag} {H : Hp} {a : Addr} {vs : List V} (h : TupAt K H a vs) : SqT K H a vs := by
  rcases h with ⟨o, h, _⟩ | ⟨_, h⟩
  · exact .inl (.inr ⟨o, h⟩)
  · exact h H
theorem TupAt.nd {H : Hp} {a : Addr} {vs : List V} {pins : List (Addr × Obj)} {σ : L2.St} {s : Shared} (h : TupAt X.K H a vs) (I : Inv X pins σ H s) : s.TypeIs (.ref a) "tuple" ∧ ∃ ob, s.heap.get? a = some ob ∧ ob.dict = none := by
  rcases h with ⟨o, h, hd⟩ | ⟨⟨o, hk, hc, hd⟩, _⟩
  · obtain ⟨hg, hz, its, r, o', ho, hc, _⟩ := I.hok a _ h
    exact ⟨⟨o', ho, hc⟩, o, hg, hd⟩
  · have hg := I.kIn a o hk
    exact ⟨⟨o, hg, hc⟩, o, hg, hd⟩
end
end MX

/-! MX0: pure values D, ownership trees O, how they stand in the abstract heap, the state relation RS, the step relation Stp. -/
namespace MX
open PySem L2

/-- the written part, and where each own class stands -/
structure Wd where
  K : PySem.W.Frag
  cl : String → Option Addr
  /-- in an except suite: the slot of the exception's name, the exception -/
  ex : Option (Nat × Addr) := none

/-- a value that nobody changes any more -/
inductive D where
  | non | bl (b : Bool) | int (i : Int) | str (s : Str) | ty (n : String) | cls (n : String)
  | adr (a : Addr) | tup (xs : List D) | lst (xs : List D) | dic (ks : List Key) (xs : List D) | obj (c : String) (ns : List Str) (xs : List D)

/-- a value, its owned (so changeable) objects told -/
inductive O where
  | d (x : D) | lst (xs : List O) | dic (ks : List Key) (xs : List O) | obj (c : String) (ns : List Str) (xs : List O)

mutual
def O.fz : O → D
  | .d x => x
  | .lst xs => .lst (fzs xs)
  | .dic ks xs => .dic ks (fzs xs)
  | .obj c ns xs => .obj c ns (fzs xs)
def fzs : List O → List D
  | [] => []
  | o :: os => o.fz :: fzs os
end
theorem fzs_leaf : ∀ xs : List D, fzs (xs.map O.d) = xs
  | [] => rfl
  | x :: xs => by show x :: fzs (xs.map O.d) = x :: xs; rw [fzs_leaf xs]
theorem fzs_map : ∀ xs : List O, fzs xs = xs.map O.fz
  | [] => rfl
  | x :: xs => by show x.fz :: fzs xs = x.fz :: xs.map O.fz; rw [fzs_map xs]
theorem fzs_append (xs ys : List O) : fzs (xs ++ ys) = fzs xs ++ fzs ys := by rw [fzs_map, fzs_map, fzs_map, List.map_append]
theorem fzs_length (xs : List O) : (fzs xs).length = xs.length := by rw [fzs_map, List.length_map]

mutual
def RD (W : Wd) (H : Hp) (Z : Addr → Prop) : D → V → Prop
  | .non, v => v = .non
  | .bl b, v => v = .bl b
  | .int i, v => v = .int i
  | .str s, v => v = .str s
  | .ty n, v => v = .ty n
  | .cls n, v => ∃ a, W.cl n = some a ∧ v = .ref a
  | .adr a, v => v = .ref a
  | .tup xs, v => ∃ a vs, v = .ref a ∧ TupAt W.K H a vs ∧ RDs W H Z xs vs
  | .lst xs, v => ∃ a vs, v = .ref a ∧ (Z a ∧ Rd H a (.lst vs)) ∧ RDs W H Z xs vs
  | .dic ks xs, v => ∃ (a : Addr) (kvs : List (Key × V)), v = .ref a ∧ Z a ∧ Rd H a (.dK kvs) ∧ kvs.map (·.1) = ks ∧ ks.Nodup ∧ RDs W H Z xs (kvs.map (·.2))
  | .obj c ns xs, v => ∃ (a C dx : Addr) (fs : List (Str × V)), v = .ref a ∧ Z a ∧ W.cl c = some C ∧ H a = some (.ins C dx fs) ∧ fs.map (·.1) = ns ∧ RDs W H Z xs (fs.map (·.2))
def RDs (W : Wd) (H : Hp) (Z : Addr → Prop) : List D → List V → Prop
  | [], vs => vs = []
  | d :: ds, vs => ∃ v r, vs = v :: r ∧ RD W H Z d v ∧ RDs W H Z ds r
end

mutual
def RO (W : Wd) (H : Hp) (Z : Addr → Prop) : O → V → List Addr → Prop
  | .d x, v, fp => RD W H Z x v ∧ fp = []
  | .lst xs, v, fp => ∃ a vs fp', v = .ref a ∧ H a = some (.lst vs) ∧ fp = a :: fp' ∧ ROs W H Z xs vs fp'
  | .dic ks xs, v, fp => ∃ (a : Addr) (kvs : List (Key × V)) (fp' : List Addr), v = .ref a ∧ H a = some (.dK kvs) ∧ kvs.map (·.1) = ks ∧ ks.Nodup ∧ fp = a :: fp' ∧ ROs W H Z xs (kvs.map (·.2)) fp'
  | .obj c ns xs, v, fp => ∃ (a C dx : Addr) (fs : List (Str × V)) (fp' : List Addr), v = .ref a ∧ W.cl c = some C ∧ H a = some (.ins C dx fs) ∧ fs.map (·.1) = ns ∧ fp = a :: fp' ∧ ROs W H Z xs (fs.map (·.2)) fp'
def ROs (W : Wd) (H : Hp) (Z : Addr → Prop) : List O → List V → List Addr → Prop
  | [], vs, fp => vs = [] ∧ fp = []
  | o :: os, vs, fp => ∃ v r f1 f2, vs = v :: r ∧ fp = f1 ++ f2 ∧ RO W H Z o v f1 ∧ ROs W H Z os r f2
end

def REnv (W : Wd) (H : Hp) (Z : Addr → Prop) : List (Option O) → St → List Addr → Prop
  | [], σ, fp => σ = [] ∧ fp = []
  | none :: e, σ, fp => ∃ x r, σ = x :: r ∧ REnv W H Z e r fp
  | some o :: e, σ, fp => ∃ v r f1 f2, σ = some v :: r ∧ fp = f1 ++ f2 ∧ RO W H Z o v f1 ∧ REnv W H Z e r f2

/-! ### keeping -/
/-- what RD leans on is kept -/
structure Kp (H : Hp) (Z : Addr → Prop) (H' : Hp) (Z' : Addr → Prop) : Prop where
  z : ∀ a, Z a → Z' a
  zk : ∀ a o, Z a → H a = some o → H' a = some o
  tp : ∀ a xs, H a = some (.tup xs) → H' a = some (.tup xs)
  fr : ∀ a o u, H a = some (.frz o u) → H' a = some (.frz o u)
theorem Kp.refl {H : Hp} {Z : Addr → Prop} : Kp H Z H Z := ⟨fun _ h => h, fun _ _ _ h => h, fun _ _ h => h, fun _ _ _ h => h⟩
theorem Kp.zmono {H : Hp} {Z Z' : Addr → Prop} (h : ∀ a, Z a → Z' a) : Kp H Z H Z' := ⟨h, fun _ _ _ h => h, fun _ _ h => h, fun _ _ _ h => h⟩
section
variable {W : Wd} {H H' : Hp} {Z Z' : Addr → Prop}
theorem Kp.rdT (k : Kp H Z H' Z') {a : Addr} {xs : List V} (h : Rd H a (.tup xs)) : Rd H' a (.tup xs) := by
  rcases h with h | ⟨o, h⟩
  · exact .inl (k.tp _ _ h)
  · exact .inr ⟨o, k.fr _ _ _ h⟩
theorem Kp.rdZ (k : Kp H Z H' Z') {a : Addr} {u : HO} (z : Z a) (h : Rd H a u) : Rd H' a u := by
  rcases h with h | ⟨o, h⟩
  · exact .inl (k.zk _ _ z h)
  · exact .inr ⟨o, k.fr _ _ _ h⟩
mutual
theorem RD.keep (k : Kp H Z H' Z') : ∀ (d : D) (v : V), RD W H Z d v → RD W H' Z' d v
  | .non, _, h => h
  | .bl _, _, h => h
  | .int _, _, h => h
  | .str _, _, h => h
  | .ty _, _, h => h
  | .cls _, _, h => h
  | .adr _, _, h => h
  | .tup xs, v, ⟨a, vs, e, h, r⟩ => ⟨a, vs, e, h.imp (fun ⟨o, x, n⟩ => ⟨o, k.fr _ _ _ x, n⟩) id, RDs.keep k xs vs r⟩
  | .lst xs, v, ⟨a, vs, e, h, r⟩ => ⟨a, vs, e, ⟨k.z _ h.1, k.rdZ h.1 h.2⟩, RDs.keep k xs vs r⟩
  | .dic ks xs, v, ⟨a, kvs, e, z, h, r1, nd, r⟩ => ⟨a, kvs, e, k.z _ z, k.rdZ z h, r1, nd, RDs.keep k xs _ r⟩
  | .obj c ns xs, v, ⟨a, C, dx, fs, e, z, hc, h, r1, r⟩ => ⟨a, C, dx, fs, e, k.z _ z, hc, k.zk _ _ z h, r1, RDs.keep k xs _ r⟩
theorem RDs.keep (k : Kp H Z H' Z') : ∀ (ds : List D) (vs : List V), RDs W H Z ds vs → RDs W H' Z' ds vs
  | [], _, h => h
  | d :: ds, vs, ⟨v, r, e, h1, h2⟩ => ⟨v, r, e, RD.keep k d v h1, RDs.keep k ds r h2⟩
end
mutual
theorem RO.keep (k : Kp H Z H' Z') : ∀ (o : O) (v : V) (fp : List Addr), RO W H Z o v fp → (∀ a ∈ fp, ∀ u, H a = some u → H' a = some u) → RO W H' Z' o v fp
  | .d x, v, fp, ⟨h, e⟩, _ => ⟨h.keep k x v, e⟩
  | .lst xs, v, fp, ⟨a, vs, f', e, h, ef, r⟩, kf => ⟨a, vs, f', e, kf a (by rw [ef]; exact List.mem_cons_self) _ h, ef, ROs.keep k xs vs f' r fun b hb => kf b (by rw [ef]; exact List.mem_cons_of_mem _ hb)⟩
  | .dic ks xs, v, fp, ⟨a, kvs, f', e, h, e1, nd, ef, r⟩, kf => ⟨a, kvs, f', e, kf a (by rw [ef]; exact List.mem_cons_self) _ h, e1, nd, ef, ROs.keep k xs _ f' r fun b hb => kf b (by rw [ef]; exact List.mem_cons_of_mem _ hb)⟩
  | .obj c ns xs, v, fp, ⟨a, C, dx, fs, f', e, hc, h, e1, ef, r⟩, kf => ⟨a, C, dx, fs, f', e, hc, kf a (by rw [ef]; exact List.mem_cons_self) _ h, e1, ef, ROs.keep k xs _ f' r fun b hb => kf b (by rw [ef]; exact List.mem_cons_of_mem _ hb)⟩
theorem ROs.keep (k : Kp H Z H' Z') : ∀ (os : List O) (vs : List V) (fp : List Addr), ROs W H Z os vs fp → (∀ a ∈ fp, ∀ u, H a = some u → H' a = some u) → ROs W H' Z' os vs fp
  | [], _, _, h, _ => h
  | o :: os, vs, fp, ⟨v, r, f1, f2, e, ef, h1, h2⟩, kf =>
    ⟨v, r, f1, f2, e, ef, RO.keep k o v f1 h1 fun a ha => kf a (by rw [ef]; exact List.mem_append_left _ ha), ROs.keep k os r f2 h2 fun a ha => kf a (by rw [ef]; exact List.mem_append_right _ ha)⟩
end
theorem REnv.keep (k : Kp H Z H' Z') : ∀ (e : List (Option O)) (σ : St) (fp : List Addr), REnv W H Z e σ fp → (∀ a ∈ fp, ∀ u, H a = some u → H' a = some u) → REnv W H' Z' e σ fp
  | [], _, _, h, _ => h
  | none :: e, σ, fp, ⟨x, r, es, h⟩, kf => ⟨x, r, es, REnv.keep k e r fp h kf⟩
  | some o :: e, σ, fp, ⟨v, r, f1, f2, es, ef, h1, h2⟩, kf =>
    ⟨v, r, f1, f2, es, ef, RO.keep k o v f1 h1 fun a ha => kf a (by rw [ef]; exact List.mem_append_left _ ha), REnv.keep k e r f2 h2 fun a ha => kf a (by rw [ef]; exact List.mem_append_right _ ha)⟩
/-! ### another suite -/
def Wd.un (W : Wd) : Wd := ⟨W.K, W.cl, none⟩
structure Wx (W W' : Wd) : Prop where
  k : W.K = W'.K
  c : W.cl = W'.cl
mutual
theorem RD.wx {W W' : Wd} (k : Wx W W') : ∀ (d : D) (v : V), RD W H Z d v → RD W' H Z d v
  | .non, _, h => h
  | .bl _, _, h => h
  | .int _, _, h => h
  | .str _, _, h => h
  | .ty _, _, h => h
  | .cls _, _, ⟨a, h, e⟩ => ⟨a, by rw [← k.c]; exact h, e⟩
  | .adr _, _, h => h
  | .tup xs, v, ⟨a, vs, e, h, r⟩ => ⟨a, vs, e, by rw [← k.k]; exact h, RDs.wx k xs vs r⟩
  | .lst xs, v, ⟨a, vs, e, h, r⟩ => ⟨a, vs, e, h, RDs.wx k xs vs r⟩
  | .dic ks xs, v, ⟨a, kvs, e, z, h, r1, nd, r⟩ => ⟨a, kvs, e, z, h, r1, nd, RDs.wx k xs _ r⟩
  | .obj c ns xs, v, ⟨a, C, dx, fs, e, z, hc, h, r1, r⟩ => ⟨a, C, dx, fs, e, z, by rw [← k.c]; exact hc, h, r1, RDs.wx k xs _ r⟩
theorem RDs.wx {W W' : Wd} (k : Wx W W') : ∀ (ds : List D) (vs : List V), RDs W H Z ds vs → RDs W' H Z ds vs
  | [], _, h => h
  | d :: ds, vs, ⟨v, r, e, h1, h2⟩ => ⟨v, r, e, RD.wx k d v h1, RDs.wx k ds r h2⟩
end
mutual
theorem RO.wx {W W' : Wd} (k : Wx W W') : ∀ (o : O) (v : V) (fp : List Addr), RO W H Z o v fp → RO W' H Z o v fp
  | .d x, v, fp, ⟨h, e⟩ => ⟨h.wx k x v, e⟩
  | .lst xs, v, fp, ⟨a, vs, f', e, h, ef, r⟩ => ⟨a, vs, f', e, h, ef, ROs.wx k xs vs f' r⟩
  | .dic ks xs, v, fp, ⟨a, kvs, f', e, h, e1, nd, ef, r⟩ => ⟨a, kvs, f', e, h, e1, nd, ef, ROs.wx k xs _ f' r⟩
  | .obj c ns xs, v, fp, ⟨a, C, dx, fs, f', e, hc, h, e1, ef, r⟩ => ⟨a, C, dx, fs, f', e, by rw [← k.c]; exact hc, h, e1, ef, ROs.wx k xs _ f' r⟩
theorem ROs.wx {W W' : Wd} (k : Wx W W') : ∀ (os : List O) (vs : List V) (fp : List Addr), ROs W H Z os vs fp → ROs W' H Z os vs fp
  | [], _, _, h => h
  | o :: os, vs, fp, ⟨v, r, f1, f2, e, ef, h1, h2⟩ => ⟨v, r, f1, f2, e, ef, RO.wx k o v f1 h1, ROs.wx k os r f2 h2⟩
end
theorem REnv.wx {W W' : Wd} (k : Wx W W') : ∀ (e : List (Option O)) (σ : St) (fp : List Addr), REnv W H Z e σ fp → REnv W' H Z e σ fp
  | [], _, _, h => h
  | none :: e, σ, fp, ⟨x, r, es, h⟩ => ⟨x, r, es, REnv.wx k e r fp h⟩
  | some o :: e, σ, fp, ⟨v, r, f1, f2, es, ef, h1, h2⟩ => ⟨v, r, f1, f2, es, ef, RO.wx k o v f1 h1, REnv.wx k e r f2 h2⟩
/-! owned becomes known -/
mutual
theorem RO.frozen (hz : ∀ a, Z a → Z' a) : ∀ (o : O) (v : V) (fp : List Addr), RO W H Z o v fp → (∀ a ∈ fp, Z' a) → RD W H Z' o.fz v
  | .d x, v, fp, ⟨h, _⟩, _ => h.keep (Kp.zmono hz) x v
  | .lst xs, v, fp, ⟨a, vs, f', e, h, ef, r⟩, kf => ⟨a, vs, e, ⟨kf a (by rw [ef]; exact List.mem_cons_self), .inl h⟩, ROs.frozen hz xs vs f' r fun b hb => kf b (by rw [ef]; exact List.mem_cons_of_mem _ hb)⟩
  | .dic ks xs, v, fp, ⟨a, kvs, f', e, h, e1, nd, ef, r⟩, kf => ⟨a, kvs, e, kf a (by rw [ef]; exact List.mem_cons_self), .inl h, e1, nd, ROs.frozen hz xs _ f' r fun b hb => kf b (by rw [ef]; exact List.mem_cons_of_mem _ hb)⟩
  | .obj c ns xs, v, fp, ⟨a, C, dx, fs, f', e, hc, h, e1, ef, r⟩, kf => ⟨a, C, dx, fs, e, kf a (by rw [ef]; exact List.mem_cons_self), hc, h, e1, ROs.frozen hz xs _ f' r fun b hb => kf b (by rw [ef]; exact List.mem_cons_of_mem _ hb)⟩
theorem ROs.frozen (hz : ∀ a, Z a → Z' a) : ∀ (os : List O) (vs : List V) (fp : List Addr), ROs W H Z os vs fp → (∀ a ∈ fp, Z' a) → RDs W H Z' (fzs os) vs
  | [], _, _, ⟨e, _⟩, _ => e
  | o :: os, vs, fp, ⟨v, r, f1, f2, e, ef, h1, h2⟩, kf =>
    ⟨v, r, e, RO.frozen hz o v f1 h1 fun a ha => kf a (by rw [ef]; exact List.mem_append_left _ ha), ROs.frozen hz os r f2 h2 fun a ha => kf a (by rw [ef]; exact List.mem_append_right _ ha)⟩
end
/-! ### lists of values -/
theorem ROs.len : ∀ {os : List O} {vs : List V} {fp : List Addr}, ROs W H Z os vs fp → os.length = vs.length
  | [], _, _, ⟨e, _⟩ => by rw [e]; rfl
  | o :: os, vs, fp, ⟨v, r, f1, f2, e, ef, h1, h2⟩ => by rw [e, List.length_cons, List.length_cons, ROs.len h2]
theorem RDs.len : ∀ {ds : List D} {vs : List V}, RDs W H Z ds vs → ds.length = vs.length
  | [], _, e => by rw [show _ = [] from e]; rfl
  | o :: os, vs, ⟨v, r, e, h1, h2⟩ => by rw [e, List.length_cons, List.length_cons, RDs.len h2]
theorem RDs.get : ∀ {ds : List D} {vs : List V} {i : Nat} {d : D}, RDs W H Z ds vs → ds[i]? = some d → ∃ v, vs[i]? = some v ∧ RD W H Z d v
  | [], _, _, _, _, e => by simp at e
  | d :: ds, vs, 0, d', ⟨v, r, e, h1, h2⟩, e' => by
    have : d = d' := Option.some.inj e'
    subst this; exact ⟨v, by rw [e]; rfl, h1⟩
  | d :: ds, vs, i + 1, d', ⟨v, r, e, h1, h2⟩, e' => by
    obtain ⟨x, hx, hr⟩ := RDs.get (i := i) h2 e'
    exact ⟨x, by rw [e]; exact hx, hr⟩
theorem RDs.getV : ∀ {ds : List D} {vs : List V} {i : Nat} {v : V}, RDs W H Z ds vs → vs[i]? = some v → ∃ d, ds[i]? = some d ∧ RD W H Z d v
  | [], _, _, _, e, e' => by rw [show _ = [] from e] at e'; simp at e'
  | d :: ds, vs, 0, v', ⟨v, r, e, h1, h2⟩, e' => by
    rw [e] at e'
    have : v = v' := Option.some.inj e'
    subst this; exact ⟨d, rfl, h1⟩
  | d :: ds, vs, i + 1, v', ⟨v, r, e, h1, h2⟩, e' => by
    rw [e] at e'
    obtain ⟨x, hx, hr⟩ := RDs.getV (i := i) h2 e'
    exact ⟨x, hx, hr⟩
theorem RDs.append : ∀ {ds es : List D} {vs us : List V}, RDs W H Z ds vs → RDs W H Z es us → RDs W H Z (ds ++ es) (vs ++ us)
  | [], _, _, _, e, h => by rw [show _ = [] from e]; exact h
  | d :: ds, es, vs, us, ⟨v, r, e, h1, h2⟩, h => ⟨v, r ++ us, by rw [e]; rfl, h1, RDs.append h2 h⟩
theorem RDs.ros : ∀ {ds : List D} {vs : List V}, RDs W H Z ds vs → ROs W H Z (ds.map O.d) vs []
  | [], _, e => ⟨e, rfl⟩
  | d :: ds, vs, ⟨v, r, e, h1, h2⟩ => ⟨v, r, [], [], e, rfl, ⟨h1, rfl⟩, RDs.ros h2⟩
theorem ROs.append : ∀ {os ps : List O} {vs us : List V} {f g : List Addr}, ROs W H Z os vs f → ROs W H Z ps us g → ROs W H Z (os ++ ps) (vs ++ us) (f ++ g)
  | [], _, _, _, _, _, ⟨e, ef⟩, h => by rw [e, ef]; exact h
  | o :: os, ps, vs, us, f, g, ⟨v, r, f1, f2, e, ef, h1, h2⟩, h => ⟨v, r ++ us, f1, f2 ++ g, by rw [e]; rfl, by rw [ef, List.append_assoc], h1, ROs.append h2 h⟩
theorem ROs.split : ∀ {os ps : List O} {ws : List V} {f : List Addr}, ROs W H Z (os ++ ps) ws f → ∃ vs us f1 f2, ws = vs ++ us ∧ f = f1 ++ f2 ∧ ROs W H Z os vs f1 ∧ ROs W H Z ps us f2
  | [], ps, ws, f, h => ⟨[], ws, [], f, rfl, rfl, ⟨rfl, rfl⟩, h⟩
  | o :: os, ps, ws, f, ⟨v, r, f1, f2, e, ef, h1, h2⟩ => by
    obtain ⟨vs, us, g1, g2, e', ef', a, b⟩ := ROs.split h2
    exact ⟨v :: vs, us, f1 ++ g1, g2, by rw [e, e']; rfl, by rw [ef, ef', List.append_assoc], ⟨v, vs, f1, g1, rfl, rfl, h1, a⟩, b⟩
theorem ROs.one {o : O} {v : V} {f : List Addr} (h : RO W H Z o v f) : ROs W H Z [o] [v] f := ⟨v, [], f, [], rfl, (List.append_nil f).symm, h, rfl, rfl⟩
theorem ROs.getO : ∀ {os : List O} {vs : List V} {f : List Addr} {i : Nat} {o : O}, ROs W H Z os vs f → os[i]? = some o → ∃ v f1 f2 f3, vs[i]? = some v ∧ f = f1 ++ f2 ++ f3 ∧ RO W H Z o v f2
  | [], _, _, _, _, _, e => by simp at e
  | p :: os, vs, f, 0, o, ⟨v, r, f1, f2, e, ef, h1, h2⟩, e' => by
    have : p = o := Option.some.inj e'
    subst this; exact ⟨v, [], f1, f2, by rw [e]; rfl, by rw [ef]; rfl, h1⟩
  | p :: os, vs, f, i + 1, o, ⟨v, r, f1, f2, e, ef, h1, h2⟩, e' => by
    obtain ⟨x, g1, g2, g3, hx, eg, hr⟩ := ROs.getO (i := i) h2 e'
    exact ⟨x, f1 ++ g1, g2, g3, by rw [e]; exact hx, by rw [ef, eg]; simp, hr⟩
/-- one place replaced -/
theorem ROs.setO : ∀ {os : List O} {vs : List V} {f : List Addr} {i : Nat} {o o' : O} {v' : V} {g : List Addr}, ROs W H Z os vs f → os[i]? = some o → RO W H Z o' v' g →
    ∃ f1 f2 f3, f = f1 ++ f2 ++ f3 ∧ ROs W H Z (os.set i o') (vs.set i v') (f1 ++ g ++ f3)
  | [], _, _, _, _, _, _, _, _, e, _ => by simp at e
  | p :: os, vs, f, 0, o, o', v', g, ⟨v, r, f1, f2, e, ef, h1, h2⟩, e', h => by
    refine ⟨[], f1, f2, by rw [ef]; rfl, ?_⟩
    rw [e]
    exact ⟨v', r, g, f2, rfl, by simp, h, h2⟩
  | p :: os, vs, f, i + 1, o, o', v', g, ⟨v, r, f1, f2, e, ef, h1, h2⟩, e', h => by
    obtain ⟨g1, g2, g3, eg, hr⟩ := ROs.setO (i := i) h2 e' h
    refine ⟨f1 ++ g1, g2, g3, by rw [ef, eg]; simp, ?_⟩
    rw [e]
    exact ⟨v, r.set i v', f1, g1 ++ g ++ g3, rfl, by simp, h1, hr⟩
theorem REnv.len : ∀ {e : List (Option O)} {σ : St} {f : List Addr}, REnv W H Z e σ f → e.length = σ.length
  | [], _, _, ⟨e, _⟩ => by rw [e]; rfl
  | none :: e, _, _, ⟨x, r, es, h⟩ => by rw [es, List.length_cons, List.length_cons, REnv.len h]
  | some o :: e, _, _, ⟨v, r, f1, f2, es, ef, h1, h2⟩ => by rw [es, List.length_cons, List.length_cons, REnv.len h2]
theorem REnv.get : ∀ {e : List (Option O)} {σ : St} {f : List Addr} {i : Nat} {o : O}, REnv W H Z e σ f → e[i]? = some (some o) → ∃ v f1 f2 f3, σ[i]? = some (some v) ∧ f = f1 ++ f2 ++ f3 ∧ RO W H Z o v f2
  | [], _, _, _, _, _, e' => by simp at e'
  | none :: e, _, _, 0, _, _, e' => by simp at e'
  | some p :: e, σ, f, 0, o, ⟨v, r, f1, f2, es, ef, h1, h2⟩, e' => by
    have : p = o := Option.some.inj (Option.some.inj e')
    subst this; exact ⟨v, [], f1, f2, by rw [es]; rfl, by rw [ef]; rfl, h1⟩
  | none :: e, σ, f, i + 1, o, ⟨x, r, es, h⟩, e' => by
    obtain ⟨v, f1, f2, f3, hv, ef, hr⟩ := REnv.get (i := i) h e'
    exact ⟨v, f1, f2, f3, by rw [es]; exact hv, ef, hr⟩
  | some p :: e, σ, f, i + 1, o, ⟨v, r, f1, f2, es, ef, h1, h2⟩, e' => by
    obtain ⟨x, g1, g2, g3, hx, eg, hr⟩ := REnv.get (i := i) h2 e'
    exact ⟨x, f1 ++ g1, g2, g3, by rw [es]; exact hx, by rw [ef, eg]; simp, hr⟩
/-- a slot set (its old tree goes) -/
theorem REnv.set : ∀ {e : List (Option O)} {σ : St} {f : List Addr} {i : Nat} {o : O} {v : V} {g : List Addr}, REnv W H Z e σ f → i < e.length → RO W H Z o v g →
    ∃ f1 f2 f3, f = f1 ++ f2 ++ f3 ∧ REnv W H Z (e.set i (some o)) (σ.set i (some v)) (f1 ++ g ++ f3)
  | [], _, _, _, _, _, _, _, hi, _ => absurd hi (Nat.not_lt_zero _)
  | none :: e, σ, f, 0, o, v, g, ⟨x, r, es, h⟩, _, ho => ⟨[], [], f, rfl, by rw [es]; exact ⟨v, r, g, f, rfl, by simp, ho, h⟩⟩
  | some p :: e, σ, f, 0, o, v, g, ⟨x, r, f1, f2, es, ef, h1, h2⟩, _, ho => ⟨[], f1, f2, by rw [ef]; rfl, by rw [es]; exact ⟨v, r, g, f2, rfl, by simp, ho, h2⟩⟩
  | none :: e, σ, f, i + 1, o, v, g, ⟨x, r, es, h⟩, hi, ho => by
    obtain ⟨f1, f2, f3, ef, hr⟩ := REnv.set (i := i) h (Nat.lt_of_succ_lt_succ hi) ho
    exact ⟨f1, f2, f3, ef, by rw [es]; exact ⟨x, _, rfl, hr⟩⟩
  | some p :: e, σ, f, i + 1, o, v, g, ⟨x, r, f1, f2, es, ef, h1, h2⟩, hi, ho => by
    obtain ⟨g1, g2, g3, eg, hr⟩ := REnv.set (i := i) h2 (Nat.lt_of_succ_lt_succ hi) ho
    refine ⟨f1 ++ g1, g2, g3, by rw [ef, eg]; simp, ?_⟩
    rw [es]
    exact ⟨x, r.set i (some v), f1, g1 ++ g ++ g3, rfl, by simp, h1, hr⟩
/-- a slot forgotten; its tree is handed out -/
theorem REnv.drop : ∀ {e : List (Option O)} {σ : St} {f : List Addr} {i : Nat} {o : O}, REnv W H Z e σ f → e[i]? = some (some o) →
    ∃ v f1 f2 f3, σ[i]? = some (some v) ∧ f = f1 ++ f2 ++ f3 ∧ RO W H Z o v f2 ∧ REnv W H Z (e.set i none) σ (f1 ++ f3)
  | [], _, _, _, _, _, e' => by simp at e'
  | none :: e, _, _, 0, _, _, e' => by simp at e'
  | some p :: e, σ, f, 0, o, ⟨v, r, f1, f2, es, ef, h1, h2⟩, e' => by
    have : p = o := Option.some.inj (Option.some.inj e')
    subst this; exact ⟨v, [], f1, f2, by rw [es]; rfl, by rw [ef]; rfl, h1, ⟨some v, r, es, h2⟩⟩
  | none :: e, σ, f, i + 1, o, ⟨x, r, es, h⟩, e' => by
    obtain ⟨v, f1, f2, f3, hv, ef, hr, h3⟩ := REnv.drop (i := i) h e'
    exact ⟨v, f1, f2, f3, by rw [es]; exact hv, ef, hr, ⟨x, r, es, h3⟩⟩
  | some p :: e, σ, f, i + 1, o, ⟨v, r, f1, f2, es, ef, h1, h2⟩, e' => by
    obtain ⟨x, g1, g2, g3, hx, eg, hr, h3⟩ := REnv.drop (i := i) h2 e'
    exact ⟨x, f1 ++ g1, g2, g3, by rw [es]; exact hx, by rw [ef, eg]; simp, hr, ⟨v, r, f1, g1 ++ g3, es, by simp, h1, h3⟩⟩
/-- a forgotten slot, its value told again -/
theorem REnv.back : ∀ {e : List (Option O)} {σ : St} {f : List Addr} {i : Nat} {o : O} {v : V} {g : List Addr}, REnv W H Z e σ f → e[i]? = some none → σ[i]? = some (some v) → RO W H Z o v g →
    ∃ f1 f3, f = f1 ++ f3 ∧ REnv W H Z (e.set i (some o)) σ (f1 ++ g ++ f3)
  | [], _, _, _, _, _, _, _, e', _, _ => by simp at e'
  | some p :: e, _, _, 0, _, _, _, _, e', _, _ => by simp at e'
  | none :: e, σ, f, 0, o, v, g, ⟨x, r, es, h⟩, _, hv, ho => by
    rw [es] at hv
    have : x = some v := Option.some.inj hv
    subst this
    exact ⟨[], f, rfl, ⟨v, r, g, f, es, by simp, ho, h⟩⟩
  | none :: e, σ, f, i + 1, o, v, g, ⟨x, r, es, h⟩, e', hv, ho => by
    rw [es] at hv
    obtain ⟨f1, f3, ef, hr⟩ := REnv.back (i := i) h e' hv ho
    exact ⟨f1, f3, ef, ⟨x, r, es, hr⟩⟩
  | some p :: e, σ, f, i + 1, o, v, g, ⟨x, r, f1, f2, es, ef, h1, h2⟩, e', hv, ho => by
    rw [es] at hv
    obtain ⟨g1, g3, eg, hr⟩ := REnv.back (i := i) h2 e' hv ho
    exact ⟨f1 ++ g1, g3, by rw [ef, eg]; simp, ⟨x, r, f1, g1 ++ g ++ g3, es, by simp, h1, hr⟩⟩
end
end MX

/-! MX1: slots, results, the state relation, steps. -/
namespace MX
open PySem L2

/-- the own classes, and the exception that an except suite holds -/
structure Cl where
  f : String → Option Addr
  ex : Option (Nat × Addr) := none
/-- a slot: nothing known; a value; a pinned parameter's value; a pinned parameter that is lent -/
inductive Sl where
  | no | v (o : O) | p (o : O) | pn
abbrev En := List Sl
def Sl.cont : Sl → Option O
  | .v o => some o
  | .p o => some o
  | _ => none
def Sl.lent : Sl → Sl
  | .v _ => .no
  | .p _ => .pn
  | s => s
def Sl.put : Sl → O → Sl
  | .p _, o => .p o
  | .pn, o => .p o
  | _, o => .v o
def Sl.pinned : Sl → Bool
  | .p _ => true
  | .pn => true
  | _ => false

/-- a result -/
inductive Rs (α : Type) where
  | ok (x : α) (e : En)
  | exc (c : String) (ps : List (Str × D)) (e : En)
  | bad
def Rs.bind {α β : Type} : Rs α → (α → En → Rs β) → Rs β
  | .ok x e, f => f x e
  | .exc c ps e, _ => .exc c ps e
  | .bad, _ => .bad
/-- a statement's result -/
inductive Out where
  | nx (e : En) | rt (o : O) (e : En) | bk (e : En) | ct (e : En) | exc (c : String) (ps : List (Str × D)) (e : En) | bad
/-- a def's result -/
inductive RF where
  | ok (o : O) (ps : List (Option O))
  | exc (c : String) (ps : List (Str × D)) (qs : List (Option O))
  | bad
abbrev Den := List O → RF

abbrev Ts := List (O × V)
structure RS (W : Wd) (Z F : Addr → Prop) (P : Nat → V) (e : En) (T : Ts) (σ : L2.St) (H : Hp) : Prop where
  ex : ∃ fe ft, REnv W H Z (e.map Sl.cont) σ fe ∧ ROs W H Z (T.map (·.1)) (T.map (·.2)) ft ∧ (fe ++ ft).Nodup ∧ ∀ a ∈ fe ++ ft, F a
  sep : ∀ a, F a → ¬ Z a
  zin : ∀ a, Z a → H a ≠ none
  fin : ∀ a, F a → Mut (H a)
  pin : ∀ (i : Nat) (s : Sl), e[i]? = some s → s.pinned = true → σ[i]? = some (some (P i))
  px : ∀ (i : Nat) (a : Addr), W.ex = some (i, a) → P i = .ref a

structure Stp (Z F : Addr → Prop) (H : Hp) (Z' F' : Addr → Prop) (H' : Hp) : Prop where
  z : ∀ a, Z a → Z' a
  keep : ∀ a o, H a = some o → ¬ F a → H' a = some o
  dom : ∀ a, H a ≠ none → H' a ≠ none
  f' : ∀ a, F' a → F a ∨ H a = none
  z' : ∀ a, Z' a → Z a ∨ F a ∨ H a = none
section
variable {W : Wd} {Z F Z' F' Z2 F2 : Addr → Prop} {P : Nat → V} {e e' : En} {T T' : Ts} {σ σ' : L2.St} {H H' H2 : Hp}
theorem Stp.refl : Stp Z F H Z F H := ⟨fun _ h => h, fun _ _ h _ => h, fun _ h => h, fun _ h => .inl h, fun _ h => .inl h⟩
theorem Stp.trans (s : Stp Z F H Z' F' H') (t : Stp Z' F' H' Z2 F2 H2) : Stp Z F H Z2 F2 H2 := by
  refine ⟨fun a h => t.z a (s.z a h), fun a o h hf => t.keep a o (s.keep a o h hf) fun h' => ?_, fun a h => t.dom a (s.dom a h), fun a h => ?_, fun a h => ?_⟩
  · rcases s.f' a h' with q | q
    · exact hf q
    · rw [h] at q; cases q
  · rcases t.f' a h with q | q
    · exact s.f' a q
    · right
      cases r : H a with
      | none => rfl
      | some o => exact absurd q (s.dom a (by rw [r]; simp))
  · rcases t.z' a h with q | q | q
    · exact s.z' a q
    · rcases s.f' a q with q | q
      · exact .inr (.inl q)
      · exact .inr (.inr q)
    · right; right
      cases r : H a with
      | none => rfl
      | some o => exact absurd q (s.dom a (by rw [r]; simp))
theorem notMut_tup {a : Addr} {xs : List V} (h : H a = some (.tup xs)) : ¬ Mut (H a) := by rw [h]; exact fun z => z
theorem notMut_frz {a : Addr} {o : Obj} {u : HO} (h : H a = some (.frz o u)) : ¬ Mut (H a) := by rw [h]; exact fun z => z
theorem notMut_none {a : Addr} (h : H a = none) : ¬ Mut (H a) := by rw [h]; exact fun z => z
theorem kp_of (sep : ∀ a, F a → ¬ Z a) (fin : ∀ a, F a → Mut (H a)) (s : Stp Z F H Z' F' H') : Kp H Z H' Z' :=
  ⟨s.z, fun a o z h => s.keep a o h fun hf => sep a hf z, fun a xs h => s.keep a _ h fun hf => notMut_tup h (fin a hf), fun a o u h => s.keep a _ h fun hf => notMut_frz h (fin a hf)⟩
theorem RS.kp (r : RS W Z F P e T σ H) (s : Stp Z F H Z' F' H') : Kp H Z H' Z' := kp_of r.sep r.fin s
/-- F may be told smaller, as long as the owned ones are in it -/
theorem RS.fewer (r : RS W Z F P e T σ H) {fe ft : List Addr} (h1 : REnv W H Z (e.map Sl.cont) σ fe) (h2 : ROs W H Z (T.map (·.1)) (T.map (·.2)) ft) : True := trivial
/-- a heap that only grew, with new tracked things -/
theorem RS.grow (r : RS W Z F P e T σ H) (k : ∀ a o, H a = some o → H' a = some o) : RS W Z F P e T σ H' := by
  obtain ⟨⟨fe, ft, h1, h2, nd, hF⟩, sep, zin, fin, pin, px⟩ := r
  have kp : Kp H Z H' Z := ⟨fun _ h => h, fun a o _ h => k a o h, fun a _ h => k a _ h, fun a _ _ h => k a _ h⟩
  refine ⟨⟨fe, ft, h1.keep kp _ _ _ fun a _ u q => k a u q, h2.keep kp _ _ _ fun a _ u q => k a u q, nd, hF⟩, sep, fun a z q => ?_, fun a f => ?_, pin, px⟩
  · cases x : H a with
    | none => exact zin a z x
    | some o => rw [k a o x] at q; cases q
  · cases x : H a with
    | none => exact absurd (fin a f) (notMut_none x)
    | some o => rw [k a o x, ← x]; exact fin a f
theorem same_upd {p : Addr} {o : HO} (hp : H p = none) : ∀ a u, H a = some u → upd H p o a = some u := fun a u h => by rw [upd_ne (ne_of_none h hp)]; exact h
theorem dom_upd {p : Addr} {o : HO} : ∀ a, H a ≠ none → upd H p o a ≠ none := fun a h q => by
  by_cases e : a = p
  · subst e; rw [upd_same] at q; cases q
  · rw [upd_ne e] at q; exact h q
theorem Stp.alloc {p : Addr} {o : HO} (hp : H p = none) : Stp Z F H Z F (upd H p o) :=
  ⟨fun _ h => h, fun a u h _ => same_upd hp a u h, dom_upd, fun _ h => .inl h, fun _ h => .inl h⟩
/-- a new address becomes owned -/
theorem Stp.allocF {p : Addr} {o : HO} (hp : H p = none) : Stp Z F H Z (fun a => F a ∨ a = p) (upd H p o) :=
  ⟨fun _ h => h, fun a u h _ => same_upd hp a u h, dom_upd, fun a h => h.elim .inl fun z => .inr (by rw [z]; exact hp), fun _ h => .inl h⟩
theorem RS.pop {x : O × V} (r : RS W Z F P e (x :: T) σ H) : RS W Z F P e T σ H := by
  obtain ⟨⟨fe, ft, h1, ⟨v, rr, f1, f2, ev, ef, h2, h3⟩, nd, hF⟩, sep, zin, fin, pin, px⟩ := r
  have e1 : T.map (·.2) = rr := (List.cons.inj ev).2
  subst e1
  refine ⟨⟨fe, f2, h1, h3, ?_, fun a ha => hF a ?_⟩, sep, zin, fin, pin, px⟩
  · rw [ef] at nd
    refine nd.sublist (List.Sublist.append_left ?_ _)
    exact List.sublist_append_right _ _
  · rw [ef]
    rcases List.mem_append.mp ha with q | q
    · exact List.mem_append_left _ q
    · exact List.mem_append_right _ (List.mem_append_right _ q)
theorem RS.push {x : D} {v : V} (r : RS W Z F P e T σ H) (h : RD W H Z x v) : RS W Z F P e ((.d x, v) :: T) σ H := by
  obtain ⟨⟨fe, ft, h1, h2, nd, hF⟩, sep, zin, fin, pin, px⟩ := r
  exact ⟨⟨fe, ft, h1, ⟨v, _, [], ft, rfl, rfl, ⟨h, rfl⟩, h2⟩, nd, hF⟩, sep, zin, fin, pin, px⟩
theorem RS.top {o : O} {v : V} (r : RS W Z F P e ((o, v) :: T) σ H) : ∃ f, RO W H Z o v f ∧ ∀ a ∈ f, F a := by
  obtain ⟨⟨fe, ft, h1, ⟨v', rr, f1, f2, ev, ef, h2, h3⟩, nd, hF⟩, sep, zin, fin, pin, px⟩ := r
  have e0 : v = v' := (List.cons.inj ev).1
  subst e0
  exact ⟨f1, h2, fun a ha => hF a (by rw [ef]; exact List.mem_append_right _ (List.mem_append_left _ ha))⟩
theorem RS.topD {x : D} {v : V} (r : RS W Z F P e ((.d x, v) :: T) σ H) : RD W H Z x v := by
  obtain ⟨f, ⟨h, _⟩, _⟩ := r.top
  exact h
/-- the order of the held values does not matter -/
theorem ROs.perm {W : Wd} {H : Hp} {Z : Addr → Prop} {T T' : Ts} (p : T.Perm T') : ∀ {f : List Addr}, ROs W H Z (T.map (·.1)) (T.map (·.2)) f → ∃ g, ROs W H Z (T'.map (·.1)) (T'.map (·.2)) g ∧ f.Perm g := by
  induction p with
  | nil => exact fun {f} h => ⟨f, h, .refl _⟩
  | cons x p ih =>
    intro f ⟨v, r, f1, f2, ev, ef, h1, h2⟩
    have e1 := (List.cons.inj ev).2
    subst e1
    obtain ⟨g, hg, pg⟩ := ih h2
    have e0 : x.2 = v := (List.cons.inj ev).1
    exact ⟨f1 ++ g, ⟨v, _, f1, g, by rw [← e0]; rfl, rfl, h1, hg⟩, by rw [ef]; exact pg.append_left _⟩
  | swap x y l =>
    intro f ⟨v, r, f1, f2, ev, ef, h1, ⟨v2, r2, g1, g2, ev2, ef2, h3, h4⟩⟩
    have e0 : y.2 = v := (List.cons.inj ev).1
    have e1 := (List.cons.inj ev).2
    subst e1
    have e2 : x.2 = v2 := (List.cons.inj ev2).1
    have e3 := (List.cons.inj ev2).2
    subst e3
    refine ⟨g1 ++ (f1 ++ g2), ⟨v2, _, g1, f1 ++ g2, by rw [← e2]; rfl, rfl, h3, ⟨v, _, f1, g2, by rw [← e0]; rfl, rfl, h1, h4⟩⟩, ?_⟩
    rw [ef, ef2, ← List.append_assoc, ← List.append_assoc]
    exact List.Perm.append_right _ List.perm_append_comm
  | trans _ _ ih1 ih2 =>
    intro f h
    obtain ⟨g, hg, p1⟩ := ih1 h
    obtain ⟨g', hg', p2⟩ := ih2 hg
    exact ⟨g', hg', p1.trans p2⟩
theorem RS.perm (r : RS W Z F P e T σ H) (p : T.Perm T') : RS W Z F P e T' σ H := by
  obtain ⟨⟨fe, ft, h1, h2, nd, hF⟩, sep, zin, fin, pin, px⟩ := r
  obtain ⟨g, hg, pg⟩ := ROs.perm p h2
  have pp : (fe ++ ft).Perm (fe ++ g) := pg.append_left _
  exact ⟨⟨fe, g, h1, hg, pp.nodup nd, fun a ha => hF a (pp.mem_iff.mpr ha)⟩, sep, zin, fin, pin, px⟩
/-- the topmost held value is made known -/
theorem RS.freeze {o : O} {v : V} (r : RS W Z F P e ((o, v) :: T) σ H) : ∃ Z' F', Stp Z F H Z' F' H ∧ RS W Z' F' P e ((.d o.fz, v) :: T) σ H := by
  obtain ⟨⟨fe, ft, h1, ⟨v', rr, f1, f2, ev, ef, h2, h3⟩, nd, hF⟩, sep, zin, fin, pin, px⟩ := r
  have e0 : v = v' := (List.cons.inj ev).1
  have e1 : T.map (·.2) = rr := (List.cons.inj ev).2
  subst e0 e1
  have f1F : ∀ a ∈ f1, F a := fun a ha => hF a (by rw [ef]; exact List.mem_append_right _ (List.mem_append_left _ ha))
  rw [ef] at nd
  have nd' : (fe ++ f2).Nodup := nd.sublist (List.Sublist.append_left (List.sublist_append_right _ _) _)
  have out : ∀ a ∈ fe ++ f2, a ∉ f1 := by
    intro a ha h
    rcases List.mem_append.mp ha with q | q
    · exact (List.nodup_append.mp nd).2.2 a q a (List.mem_append_left _ h) rfl
    · exact (List.nodup_append.mp (List.nodup_append.mp nd).2.1).2.2 a h a q rfl
  have kp : Kp H Z H (fun a => Z a ∨ a ∈ f1) := Kp.zmono fun a h => .inl h
  refine ⟨fun a => Z a ∨ a ∈ f1, fun a => F a ∧ a ∉ f1, ⟨fun a h => .inl h, fun a u h _ => h, fun a h => h, fun a h => .inl h.1, fun a h => h.imp id fun q => .inl (f1F a q)⟩, ⟨⟨fe, f2, h1.keep kp _ _ _ fun _ _ _ q => q, ⟨v, _, [], f2, rfl, rfl, ⟨h2.frozen (fun a h => .inl h) _ _ _ fun a h => .inr h, rfl⟩, h3.keep kp _ _ _ fun _ _ _ q => q⟩, nd', fun a ha => ⟨hF a ?_, out a ha⟩⟩, fun a h z => ?_, fun a h => ?_, fun a h => fin a h.1, pin, px⟩⟩
  · rw [ef]
    rcases List.mem_append.mp ha with q | q
    · exact List.mem_append_left _ q
    · exact List.mem_append_right _ (List.mem_append_right _ q)
  · rcases z with z | z
    · exact sep a h.1 z
    · exact h.2 z
  · rcases h with h | h
    · exact zin a h
    · exact fun q => absurd (fin a (f1F a h)) (notMut_none q)
end
end MX

/-! MX2: the judgements HE, HV, HT, HA over expressions; constants, names, operators, displays. -/
namespace MX
open PySem L2

/-- a payload of an exception: nothing, or its own dict -/
def Pay (W : Wd) (H : Hp) (Z : Addr → Prop) (ps : List (Str × D)) (dd : Option Addr) : Prop :=
  (ps = [] ∧ dd = none) ∨ ∃ d fs, ps ≠ [] ∧ dd = some d ∧ H d = some (.xd fs) ∧ fs.map (·.1) = ps.map (·.1) ∧ RDs W H Z (ps.map (·.2)) (fs.map (·.2))
theorem Pay.wx {W W' : Wd} (k : Wx W W') {H : Hp} {Z : Addr → Prop} {ps : List (Str × D)} {dd : Option Addr} (h : Pay W H Z ps dd) : Pay W' H Z ps dd := by
  rcases h with h | ⟨d, fs, a, b, c, m, r⟩
  · exact .inl h
  · exact .inr ⟨d, fs, a, b, c, m, RDs.wx k _ _ r⟩
/-- what is wanted of an exception -/
def XOk (W : Wd) (Wo : WX) (Z F : Addr → Prop) (P : Nat → V) (T : Ts) (σ : L2.St) (H : Hp) (c : String) (ps : List (Str × D)) (e : En) : Prop :=
  ∀ Z' F' H' C dd, W.cl c = some C → Pay W H' Z' ps dd → Stp Z F H Z' F' H' → RS W Z' F' P e T σ H' → Wo (.ref C) dd σ H'
def PostE (W : Wd) (Wo : WX) (Z F : Addr → Prop) (P : Nat → V) (T : Ts) (σ : L2.St) (H : Hp) (Q : VK) : Rs O → Prop
  | .ok o e => ∀ v Z' F' H', Stp Z F H Z' F' H' → RS W Z' F' P e ((o, v) :: T) σ H' → Q v H'
  | .exc c ps e => XOk W Wo Z F P T σ H c ps e
  | .bad => False
def rdE (W : Wd) (Wo : WX) (d : En → Rs O) : TE := fun σ H Q => ∃ Z F P e T, RS W Z F P e T σ H ∧ PostE W Wo Z F P T σ H Q (d e)
/-- an operand: a value made, or a slot that is looked at -/
inductive Ar where
  | t (o : O) | s (i : Nat)
def slot (e : En) (i : Nat) : Option O := e[i]?.bind Sl.cont
def Ar.get (e : En) : Ar → Option O
  | .t o => some o
  | .s i => slot e i
def Ar.tmp : Ar → V → Ts
  | .t o, v => [(o, v)]
  | .s _, _ => []
def Ar.at (σ : L2.St) : Ar → V → Prop
  | .t _, _ => True
  | .s i, v => σ[i]? = some (some v)
def PostV (W : Wd) (Wo : WX) (Z F : Addr → Prop) (P : Nat → V) (T : Ts) (σ : L2.St) (H : Hp) (Q : VK) : Rs Ar → Prop
  | .ok x e => ∀ v Z' F' H', Stp Z F H Z' F' H' → RS W Z' F' P e (x.tmp v ++ T) σ H' → x.at σ v → Q v H'
  | .exc c ps e => XOk W Wo Z F P T σ H c ps e
  | .bad => False
def rdV (W : Wd) (Wo : WX) (d : En → Rs Ar) : TE := fun σ H Q => ∃ Z F P e T, RS W Z F P e T σ H ∧ PostV W Wo Z F P T σ H Q (d e)
def PostT (W : Wd) (Wo : WX) (Z F : Addr → Prop) (P : Nat → V) (T : Ts) (σ : L2.St) (H : Hp) (Q : Bool → Hp → Prop) : Rs Bool → Prop
  | .ok b e => ∀ Z' F' H', Stp Z F H Z' F' H' → RS W Z' F' P e T σ H' → Q b H'
  | .exc c ps e => XOk W Wo Z F P T σ H c ps e
  | .bad => False
def rdT (W : Wd) (Wo : WX) (d : En → Rs Bool) : TT := fun σ H Q => ∃ Z F P e T, RS W Z F P e T σ H ∧ PostT W Wo Z F P T σ H Q (d e)
def PostA (W : Wd) (Wo : WX) (Z F : Addr → Prop) (P : Nat → V) (T : Ts) (σ : L2.St) (H : Hp) (Q : List V → Hp → Prop) : Rs (List O) → Prop
  | .ok os e => ∀ vs Z' F' H', os.length = vs.length → Stp Z F H Z' F' H' → RS W Z' F' P e (os.zip vs ++ T) σ H' → Q vs H'
  | .exc c ps e => XOk W Wo Z F P T σ H c ps e
  | .bad => False
def rdA (W : Wd) (Wo : WX) (d : En → Rs (List O)) : TA := fun σ H Q => ∃ Z F P e T, RS W Z F P e T σ H ∧ PostA W Wo Z F P T σ H Q (d e)

abbrev Cx.wd (X : Cx) (cl : Cl) : Wd := ⟨X.K, cl.f, cl.ex⟩
def HE (X : Cx) (cl : Cl) (Wo : WX) (e : Expr) (d : En → Rs O) : Prop := PE X e (rdE (Cx.wd X cl) Wo d)
def HV (X : Cx) (cl : Cl) (Wo : WX) (e : Expr) (d : En → Rs Ar) : Prop := PE X e (rdV (Cx.wd X cl) Wo d)
def HT (X : Cx) (cl : Cl) (Wo : WX) (e : Expr) (d : En → Rs Bool) : Prop := PT X e (rdT (Cx.wd X cl) Wo d)
def HA (X : Cx) (cl : Cl) (Wo : WX) (es : List Expr) (d : En → Rs (List O)) : Prop := PA X es (rdA (Cx.wd X cl) Wo d)

theorem PE.imp {X : Cx} {e : Expr} {t t' : TE} (h : PE X e t) (k : ∀ σ H Q, t' σ H Q → t σ H Q) : PE X e t' := ⟨fun pins s σ H Q I q => h.run pins s σ H Q I (k σ H Q q)⟩
theorem PT.imp {X : Cx} {e : Expr} {t t' : TT} (h : PT X e t) (k : ∀ σ H Q, t' σ H Q → t σ H Q) : PT X e t' := ⟨fun pins s σ H Q I q => h.run pins s σ H Q I (k σ H Q q)⟩
theorem PW.imp {X : Cx} {e : Expr} {t t' : TT} (h : PW X e t) (k : ∀ σ H Q, t' σ H Q → t σ H Q) : PW X e t' := ⟨fun wh pins s σ H Q I q => h.run wh pins s σ H Q I (k σ H Q q)⟩
theorem PA.imp {X : Cx} {e : List Expr} {t t' : TA} (h : PA X e t) (k : ∀ σ H Q, t' σ H Q → t σ H Q) : PA X e t' := ⟨fun pos pins s σ H Q I q => h.run pos pins s σ H Q I (k σ H Q q)⟩

section
variable {X : Cx} {cl : Cl} {Wo : WX} {pos : Pos}
variable {W : Wd} {Z F Z' F' : Addr → Prop} {P : Nat → V} {e : En} {T : Ts} {σ : L2.St} {H H' : Hp} {Q : VK}

/-! ### helpers -/
theorem XOk.step (s : Stp Z F H Z' F' H') {c ps} (h : XOk W Wo Z F P T σ H c ps e) : XOk W Wo Z' F' P T σ H' c ps e :=
  fun Z2 F2 H2 C dd hc py s2 r => h Z2 F2 H2 C dd hc py (s.trans s2) r
theorem XOk.popped {x : O × V} {c ps} (h : XOk W Wo Z F P T σ H c ps e) : XOk W Wo Z F P (x :: T) σ H c ps e :=
  fun Z2 F2 H2 C dd hc py s2 r => h Z2 F2 H2 C dd hc py s2 r.pop
theorem slot_get (r : RS W Z F P e T σ H) {i : Nat} {o : O} (h : slot e i = some o) : ∃ v f, σ[i]? = some (some v) ∧ RO W H Z o v f ∧ ∀ a ∈ f, F a := by
  obtain ⟨⟨fe, ft, h1, h2, nd, hF⟩, _⟩ := r
  have e1 : (e.map Sl.cont)[i]? = some (some o) := by
    rw [List.getElem?_map]
    unfold slot at h
    cases q : e[i]? with
    | none => rw [q] at h; simp at h
    | some s => rw [q] at h; simpa using h
  obtain ⟨v, f1, f2, f3, hv, ef, hr⟩ := h1.get e1
  exact ⟨v, f2, hv, hr, fun a ha => hF a (List.mem_append_left _ (by rw [ef]; exact List.mem_append_left _ (List.mem_append_right _ ha)))⟩
/-- a value that is looked at -/
def See (W : Wd) (H : Hp) (Z : Addr → Prop) (o : O) (v : V) : Prop := ∃ f, RO W H Z o v f
theorem See.d {x : D} {v : V} (h : See W H Z (.d x) v) : RD W H Z x v := h.elim fun _ h => h.1
theorem See.fz {o : O} {v : V} (h : See W H Z o v) : True := trivial

/-! ### constants, names -/
def dC (x : D) : En → Rs O := fun e => .ok (.d x) e
theorem he_C {ex : Expr} {v : V} {x : D} (h : PE X ex (tC v)) (hr : ∀ H Z, RD (Cx.wd X cl) H Z x v) : HE X cl Wo ex (dC x) :=
  PE.imp h fun σ H Q ⟨Z, F, P, e, T, r, k⟩ => k v Z F H .refl (r.push (hr H Z))
theorem he_int {i j} : HE X cl Wo (.Constant (.int i) j pos) (dC (.int i)) := he_C pe_int fun _ _ => rfl
theorem he_bl {b j} : HE X cl Wo (.Constant (.bool b) j pos) (dC (.bl b)) := he_C pe_bl fun _ _ => rfl
theorem he_non {j} : HE X cl Wo (.Constant .none j pos) (dC .non) := he_C pe_non fun _ _ => rfl
theorem he_str {x j} : HE X cl Wo (.Constant (.str x) j pos) (dC (.str x)) := he_C pe_str fun _ _ => rfl
/-- a slot looked at -/
def vS (i : Nat) : En → Rs Ar := fun e => match slot e i with
  | some _ => .ok (.s i) e
  | none => .bad
theorem hv_name {i : Nat} {x : Str} (h : PE X (.Name x pos) (tVar i)) : HV X cl Wo (.Name x pos) (vS i) :=
  PE.imp h fun σ H Q ⟨Z, F, P, e, T, r, k⟩ => by
    unfold vS at k
    cases q : slot e i with
    | none => rw [q] at k; exact k.elim
    | some o =>
      rw [q] at k
      obtain ⟨v, f, hv, _⟩ := slot_get r q
      exact ⟨v, hv, k v Z F H .refl r hv⟩
/-- a made value as an operand -/
def vT (d : En → Rs O) : En → Rs Ar := fun e => (d e).bind fun o e1 => .ok (.t o) e1
theorem hv_of {ex : Expr} {d : En → Rs O} (h : HE X cl Wo ex d) : HV X cl Wo ex (vT d) :=
  PE.imp h fun σ H Q ⟨Z, F, P, e, T, r, k⟩ => ⟨Z, F, P, e, T, r, by
    unfold vT at k
    cases q : d e with
    | bad => rw [q] at k; exact k
    | exc c ps e' => rw [q] at k; exact k
    | ok o e' => rw [q] at k; exact fun v Z' F' H' s r => k v Z' F' H' s r trivial⟩
/-- the environment's part and the held part, as one -/
theorem RS.mk' {fe ft : List Addr} (h1 : REnv W H Z (e.map Sl.cont) σ fe) (h2 : ROs W H Z (T.map (·.1)) (T.map (·.2)) ft) (nd : (fe ++ ft).Nodup) (hF : ∀ a ∈ fe ++ ft, F a)
    (sep : ∀ a, F a → ¬ Z a) (zin : ∀ a, Z a → H a ≠ none) (fin : ∀ a, F a → Mut (H a)) (pin : ∀ (i : Nat) (s : Sl), e[i]? = some s → s.pinned = true → σ[i]? = some (some (P i))) (px : ∀ (i : Nat) (a : Addr), W.ex = some (i, a) → P i = .ref a) : RS W Z F P e T σ H :=
  ⟨⟨fe, ft, h1, h2, nd, hF⟩, sep, zin, fin, pin, px⟩
theorem map_set_cont {e : En} {i : Nat} {s : Sl} : (e.set i s).map Sl.cont = (e.map Sl.cont).set i s.cont := by rw [List.map_set]
theorem set_pin {e : En} {i j : Nat} {s t : Sl} (h : (e.set i s)[j]? = some t) (hp : t.pinned = true) (hs : s.pinned = true → ∃ s0, e[i]? = some s0 ∧ s0.pinned = true) : ∃ t0, e[j]? = some t0 ∧ t0.pinned = true := by
  by_cases ij : i = j
  · subst ij
    rw [List.getElem?_set] at h
    simp only [if_true] at h
    split at h
    · have : s = t := Option.some.inj h
      subst this
      exact hs hp
    · cases h
  · rw [List.getElem?_set_ne ij] at h
    exact ⟨t, h, hp⟩
/-- a slot's tree moves to the held values -/
theorem RS.lend (r : RS W Z F P e T σ H) {i : Nat} {s : Sl} {o : O} (hs : e[i]? = some s) (ho : s.cont = some o) : ∃ v, σ[i]? = some (some v) ∧ RS W Z F P (e.set i s.lent) ((o, v) :: T) σ H := by
  obtain ⟨⟨fe, ft, h1, h2, nd, hF⟩, sep, zin, fin, pin, px⟩ := r
  have e1 : (e.map Sl.cont)[i]? = some (some o) := by rw [List.getElem?_map, hs]; simp [ho]
  obtain ⟨v, f1, f2, f3, hv, ef, hr, h3⟩ := h1.drop e1
  have en : s.lent.cont = none := by cases s <;> rfl
  have pp : (fe ++ ft).Perm ((f1 ++ f3) ++ (f2 ++ ft)) := by
    rw [ef]
    simp only [List.append_assoc]
    refine List.Perm.append_left _ ?_
    rw [← List.append_assoc, ← List.append_assoc]
    exact List.Perm.append_right _ List.perm_append_comm
  refine ⟨v, hv, ⟨⟨f1 ++ f3, f2 ++ ft, ?_, ⟨v, _, f2, ft, rfl, rfl, hr, h2⟩, pp.nodup nd, fun a ha => hF a (pp.mem_iff.mpr ha)⟩, sep, zin, fin, fun j t hj hp => ?_, px⟩⟩
  · rw [map_set_cont, en]; exact h3
  · obtain ⟨t0, h0, p0⟩ := set_pin hj hp fun q => ⟨s, hs, by cases s <;> simp_all [Sl.lent, Sl.pinned]⟩
    exact pin j t0 h0 p0
/-- .. and back into the slot -/
theorem RS.back {v : V} {o : O} (r : RS W Z F P e ((o, v) :: T) σ H) {i : Nat} {s : Sl} (hs : e[i]? = some s) (ho : s.cont = none) (hv : σ[i]? = some (some v)) : RS W Z F P (e.set i (s.put o)) T σ H := by
  obtain ⟨⟨fe, ft, h1, ⟨v', rr, f1, f2, ev, ef, h2, h3⟩, nd, hF⟩, sep, zin, fin, pin, px⟩ := r
  have e0 : v = v' := (List.cons.inj ev).1
  have e2 : T.map (·.2) = rr := (List.cons.inj ev).2
  subst e0 e2
  have e1 : (e.map Sl.cont)[i]? = some none := by rw [List.getElem?_map, hs]; simp [ho]
  obtain ⟨g1, g3, eg, hr⟩ := h1.back e1 hv h2
  have pp : (fe ++ ft).Perm ((g1 ++ f1 ++ g3) ++ f2) := by
    rw [ef, eg]
    simp only [List.append_assoc]
    refine List.Perm.append_left _ ?_
    rw [← List.append_assoc, ← List.append_assoc]
    exact List.Perm.append_right _ List.perm_append_comm
  refine ⟨⟨g1 ++ f1 ++ g3, f2, ?_, h3, pp.nodup nd, fun a ha => hF a (pp.mem_iff.mpr ha)⟩, sep, zin, fin, fun j t hj hp => ?_, px⟩
  · rw [map_set_cont, show (s.put o).cont = some o by cases s <;> rfl]; exact hr
  · obtain ⟨t0, h0, p0⟩ := set_pin hj hp fun q => ⟨s, hs, by cases s <;> simp_all [Sl.put, Sl.pinned]⟩
    exact pin j t0 h0 p0
/-- a leaf is copied -/
theorem RS.dup {x : D} {v : V} (r : RS W Z F P e ((.d x, v) :: T) σ H) : RS W Z F P e ((.d x, v) :: (.d x, v) :: T) σ H := r.push r.topD

def modS (f : Sl → Sl) : En → Nat → En
  | [], _ => []
  | s :: e, 0 => f s :: e
  | s :: e, i + 1 => s :: modS f e i
theorem modS_eq {f : Sl → Sl} : ∀ {e : En} {i : Nat} {s : Sl}, e[i]? = some s → modS f e i = e.set i (f s)
  | [], _, _, h => by simp at h
  | s :: e, 0, t, h => by
    have : s = t := Option.some.inj h
    subst this; rfl
  | s :: e, i + 1, t, h => by
    show s :: modS f e i = s :: e.set i (f t)
    rw [modS_eq (i := i) h]
def putS (e : En) (i : Nat) (o : O) : En := modS (fun s => s.put o) e i
/-- a slot read: what it owns is known from then on -/
def dVar (i : Nat) : En → Rs O := fun e => match slot e i with
  | some (.d x) => .ok (.d x) e
  | some o => .ok (.d o.fz) (putS e i (.d o.fz))
  | none => .bad
theorem slot_some {i : Nat} {o : O} (h : slot e i = some o) : ∃ s, e[i]? = some s ∧ s.cont = some o := by
  unfold slot at h
  cases q : e[i]? with
  | none => rw [q] at h; simp at h
  | some s => rw [q] at h; exact ⟨s, rfl, h⟩
theorem lt_of_get {α : Type} {l : List α} {i : Nat} {x : α} (h : l[i]? = some x) : i < l.length := by
  rcases Nat.lt_or_ge i l.length with q | q
  · exact q
  · rw [List.getElem?_eq_none q] at h; cases h
theorem get_set_self {e : En} {i : Nat} {s t : Sl} (h : e[i]? = some s) : (e.set i t)[i]? = some t := by
  rw [List.getElem?_set_self (lt_of_get h)]
theorem set_set {e : En} {i : Nat} {s t : Sl} : (e.set i s).set i t = e.set i t := List.set_set ..
theorem lent_put {s : Sl} {o p : O} (h : s.cont = some o) : s.lent.put p = s.put p := by cases s <;> first | rfl | cases h
/-- a slot's tree is made known, and handed out too -/
theorem RS.read (r : RS W Z F P e T σ H) {i : Nat} {o : O} (h : slot e i = some o) : ∃ v Z' F', σ[i]? = some (some v) ∧ Stp Z F H Z' F' H ∧ RS W Z' F' P (putS e i (.d o.fz)) ((.d o.fz, v) :: T) σ H := by
  obtain ⟨s, hs, hc⟩ := slot_some h
  obtain ⟨v, hv, r1⟩ := r.lend hs hc
  obtain ⟨Z', F', st, r2⟩ := r1.freeze
  refine ⟨v, Z', F', hv, st, ?_⟩
  have r3 := RS.back r2.dup (i := i) (s := s.lent) (get_set_self hs) (by cases s <;> rfl) hv
  rw [set_set, lent_put hc] at r3
  unfold putS
  rw [modS_eq hs]
  exact r3
theorem he_var {i : Nat} {x : Str} (h : PE X (.Name x pos) (tVar i)) : HE X cl Wo (.Name x pos) (dVar i) :=
  PE.imp h fun σ H Q ⟨Z, F, P, e, T, r, k⟩ => by
    unfold dVar at k
    cases q : slot e i with
    | none => rw [q] at k; exact k.elim
    | some o =>
      rw [q] at k
      cases o with
      | d x =>
        obtain ⟨v, f, hv, hr, _⟩ := slot_get r q
        exact ⟨v, hv, k v Z F H .refl (r.push hr.1)⟩
      | lst xs =>
        obtain ⟨v, Z', F', hv, st, r2⟩ := r.read q
        exact ⟨v, hv, k v Z' F' H st r2⟩
      | dic ks xs =>
        obtain ⟨v, Z', F', hv, st, r2⟩ := r.read q
        exact ⟨v, hv, k v Z' F' H st r2⟩
      | obj c ns xs =>
        obtain ⟨v, Z', F', hv, st, r2⟩ := r.read q
        exact ⟨v, hv, k v Z' F' H st r2⟩
/-- a slot's tree moved out (a local that is not asked again) -/
def dMove (i : Nat) : En → Rs O := fun e => match e[i]? with
  | some (.v o) => .ok o (e.set i .no)
  | _ => .bad
theorem he_move {i : Nat} {x : Str} (h : PE X (.Name x pos) (tVar i)) : HE X cl Wo (.Name x pos) (dMove i) :=
  PE.imp h fun σ H Q ⟨Z, F, P, e, T, r, k⟩ => by
    unfold dMove at k
    cases q : e[i]? with
    | none => rw [q] at k; exact k.elim
    | some s =>
      rw [q] at k
      cases s with
      | v o =>
        obtain ⟨v, hv, r1⟩ := r.lend q (s := .v o) rfl
        exact ⟨v, hv, k v Z F H .refl r1⟩
      | _ => exact k.elim

/-! ### two operands -/
def fin (r : Option O) (e : En) : Rs O := match r with
  | some z => .ok z e
  | none => .bad
def dBin (f : O → O → Option O) (da db : En → Rs Ar) : En → Rs O := fun e => (da e).bind fun x e1 => (db e1).bind fun y e2 => match x.get e2, y.get e2 with
  | some a, some b => fin (f a b) e2
  | _, _ => .bad
/-- what a rule by values must say -/
def BinOk (W : Wd) (f : O → O → Option O) (r : V → V → Hp → VK → Prop) : Prop :=
  ∀ Z F P e T σ H a b z v u Q, f a b = some z → See W H Z a v → See W H Z b u → RS W Z F P e T σ H → (∀ w Z' F' H', Stp Z F H Z' F' H' → RS W Z' F' P e ((z, w) :: T) σ H' → Q w H') → r v u H Q
theorem see_tmp {x : Ar} {v : V} {o : O} (r : RS W Z F P e (x.tmp v ++ T) σ H) (ha : x.at σ v) (hg : x.get e = some o) : See W H Z o v ∧ RS W Z F P e T σ H := by
  cases x with
  | t p =>
    have : p = o := Option.some.inj hg
    subst this
    obtain ⟨f, h, _⟩ := r.top
    exact ⟨⟨f, h⟩, r.pop⟩
  | s i =>
    obtain ⟨w, f, hw, h, _⟩ := slot_get r hg
    rw [show σ[i]? = some (some v) from ha] at hw
    cases hw
    exact ⟨⟨f, h⟩, r⟩
theorem RS.appPop {T1 T2 : Ts} (r : RS W Z F P e (T1 ++ T2) σ H) : RS W Z F P e T2 σ H := by
  induction T1 with
  | nil => exact r
  | cons x T1 ih => exact ih r.pop
theorem XOk.pops {T1 : Ts} {c ps} (h : XOk W Wo Z F P T σ H c ps e) : XOk W Wo Z F P (T1 ++ T) σ H c ps e :=
  fun Z2 F2 H2 C dd hc py s2 r => h Z2 F2 H2 C dd hc py s2 r.appPop
theorem rd2 {f : O → O → Option O} {r : V → V → Hp → VK → Prop} {da db : En → Rs Ar} (hf : BinOk W f r) (h : rdE W Wo (dBin f da db) σ H Q) :
    rdV W Wo da σ H fun v H1 => rdV W Wo db σ H1 fun u H2 => r v u H2 Q := by
  obtain ⟨Z, F, P, e, T, r0, k⟩ := h
  refine ⟨Z, F, P, e, T, r0, ?_⟩
  unfold dBin at k
  cases qa : da e with
  | bad => rw [qa] at k; exact k
  | exc c ps e' => rw [qa] at k; exact k
  | ok x e1 =>
    intro v Z1 F1 H1 s1 r1 a1
    rw [qa] at k
    refine ⟨Z1, F1, P, e1, x.tmp v ++ T, r1, ?_⟩
    simp only [Rs.bind] at k
    cases qb : db e1 with
    | bad => rw [qb] at k; exact k
    | exc c ps e' => rw [qb] at k; exact XOk.pops (XOk.step s1 k)
    | ok y e2 =>
      intro u Z2 F2 H2 s2 r2 a2
      rw [qb] at k
      simp only [Rs.bind] at k
      cases gx : x.get e2 with
      | none => rw [gx] at k; exact k.elim
      | some a =>
        cases gy : y.get e2 with
        | none => rw [gx, gy] at k; exact k.elim
        | some b =>
          rw [gx, gy] at k
          obtain ⟨sb, r3⟩ := see_tmp r2 a2 gy
          obtain ⟨sa, r4⟩ := see_tmp r3 a1 gx
          cases qz : f a b with
          | none => simp only [fin, qz] at k; exact k.elim
          | some z =>
            simp only [fin, qz] at k
            exact hf Z2 F2 P e2 T σ H2 a b z v u Q qz sa sb r4 fun w Z' F' H' s3 r5 => k w Z' F' H' ((s1.trans s2).trans s3) r5
theorem he_op {a b : Expr} {op : Operator} {r} {f : O → O → Option O} {da db : En → Rs Ar} (ho : OpR X (binaryOp op) r) (hf : BinOk (Cx.wd X cl) f r) (ha : HV X cl Wo a da) (hb : HV X cl Wo b db) : HE X cl Wo (.BinOp a op b pos) (dBin f da db) :=
  PE.imp (pe_op ho ha hb) fun σ H Q h => rd2 hf h
theorem he_cmp {a b : Expr} {op : CmpOp} {r} {f : O → O → Option O} {da db : En → Rs Ar} (ho : OpR X (compareOp op) r) (hf : BinOk (Cx.wd X cl) f r) (ha : HV X cl Wo a da) (hb : HV X cl Wo b db) (hm : behindInMarks op b = false) : HE X cl Wo (.Compare a [op] [b] pos) (dBin f da db) :=
  PE.imp (pe_cmpR ho ha hb hm) fun σ H Q h => rd2 hf h
/-! ### one operand -/
def dUn (f : O → Option O) (da : En → Rs Ar) : En → Rs O := fun e => (da e).bind fun x e1 => match x.get e1 with
  | some a => fin (f a) e1
  | none => .bad
def UnOk (W : Wd) (f : O → Option O) (r : V → Hp → VK → Prop) : Prop :=
  ∀ Z F P e T σ H a z v Q, f a = some z → See W H Z a v → RS W Z F P e T σ H → (∀ w Z' F' H', Stp Z F H Z' F' H' → RS W Z' F' P e ((z, w) :: T) σ H' → Q w H') → r v H Q
theorem rd1 {f : O → Option O} {r : V → Hp → VK → Prop} {da : En → Rs Ar} (hf : UnOk W f r) (h : rdE W Wo (dUn f da) σ H Q) : rdV W Wo da σ H fun v H1 => r v H1 Q := by
  obtain ⟨Z, F, P, e, T, r0, k⟩ := h
  refine ⟨Z, F, P, e, T, r0, ?_⟩
  unfold dUn at k
  cases qa : da e with
  | bad => rw [qa] at k; exact k
  | exc c ps e' => rw [qa] at k; exact k
  | ok x e1 =>
    intro v Z1 F1 H1 s1 r1 a1
    rw [qa] at k
    simp only [Rs.bind] at k
    cases gx : x.get e1 with
    | none => rw [gx] at k; exact k.elim
    | some a =>
      rw [gx] at k
      obtain ⟨sa, r4⟩ := see_tmp r1 a1 gx
      cases qz : f a with
      | none => simp only [fin, qz] at k; exact k.elim
      | some z =>
        simp only [fin, qz] at k
        exact hf Z1 F1 P e1 T σ H1 a z v Q qz sa r4 fun w Z' F' H' s3 r5 => k w Z' F' H' (s1.trans s3) r5
theorem he_un {a : Expr} {op : UnaryOp} {r} {f : O → Option O} {da : En → Rs Ar} (ho : UnR X (unaryOp op) r) (hf : UnOk (Cx.wd X cl) f r) (ha : HV X cl Wo a da) : HE X cl Wo (.UnaryOp op a pos) (dUn f da) :=
  PE.imp (pe_un ho ha) fun σ H Q h => rd1 hf h
/-- the answer needs no heap -/
theorem done_leaf {x : D} {w : V} (r : RS W Z F P e T σ H) (h : ∀ H Z, RD W H Z x w) (k : ∀ w Z' F' H', Stp Z F H Z' F' H' → RS W Z' F' P e ((.d x, w) :: T) σ H' → Q w H') : Q w H := k w Z F H .refl (r.push (h H Z))
end
end MX

/-! MX3: operators, comparisons, subscripts by values. -/
namespace MX
open PySem L2
section
variable {X : Cx} {cl : Cl} {Wo : WX} {pos : Pos}
variable {W : Wd} {Z F Z' F' : Addr → Prop} {P : Nat → V} {e : En} {T : Ts} {σ : L2.St} {H H' : Hp} {Q : VK}

theorem See.all {o : O} {v : V} (h : See W H Z o v) : RD W H (fun _ => True) o.fz v := h.elim fun f h => h.frozen (fun _ _ => trivial) _ _ _ fun _ _ => trivial
/-- all items known -/
def leafs : List O → Option (List D)
  | [] => some []
  | .d x :: r => (leafs r).map (x :: ·)
  | _ :: _ => none
theorem leafs_map : ∀ xs : List D, leafs (xs.map O.d) = some xs
  | [] => rfl
  | x :: xs => by show (leafs (xs.map O.d)).map (x :: ·) = some (x :: xs); rw [leafs_map xs]; rfl
theorem leafs_eq : ∀ {os : List O} {ds : List D}, leafs os = some ds → os = ds.map O.d
  | [], ds, h => by
    have : [] = ds := Option.some.inj h
    subst this; rfl
  | .d x :: r, ds, h => by
    cases q : leafs r with
    | none => simp [leafs, q] at h
    | some es =>
      simp only [leafs, q, Option.map_some, Option.some.injEq] at h
      subst h
      rw [leafs_eq q]; rfl
  | .lst _ :: _, _, h => by cases h
  | .dic _ _ :: _, _, h => by cases h
  | .obj _ _ _ :: _, _, h => by cases h
theorem leafs_append {os ps : List O} {ds es : List D} (h : leafs os = some ds) (h' : leafs ps = some es) : leafs (os ++ ps) = some (ds ++ es) := by
  rw [leafs_eq h, leafs_eq h', ← List.map_append, leafs_map]
theorem ROs.rds : ∀ {ds : List D} {vs : List V} {f : List Addr}, ROs W H Z (ds.map O.d) vs f → RDs W H Z ds vs
  | [], _, _, ⟨e, _⟩ => e
  | d :: ds, vs, f, ⟨v, r, f1, f2, e, _, h1, h2⟩ => ⟨v, r, e, h1.1, ROs.rds h2⟩
/-- a list's items -/
def O.ls : O → Option (List D)
  | .lst os => leafs os
  | .d (.lst ds) => some ds
  | _ => none
def O.tp : O → Option (List D)
  | .d (.tup ds) => some ds
  | _ => none
theorem See.list {o : O} {v : V} {ds : List D} (h : See W H Z o v) (q : o.ls = some ds) : ∃ a vs, v = .ref a ∧ SqL W.K H a vs ∧ RDs W H Z ds vs := by
  obtain ⟨f, h⟩ := h
  cases o with
  | lst os =>
    obtain ⟨a, vs, f', e, hh, ef, r⟩ := h
    rw [leafs_eq q] at r
    exact ⟨a, vs, e, .inl (.inl hh), r.rds⟩
  | d x =>
    cases x with
    | lst es =>
      have : es = ds := Option.some.inj q
      subst this
      obtain ⟨⟨a, vs, e, hh, r⟩, _⟩ := h
      exact ⟨a, vs, e, .inl hh.2, r⟩
    | _ => cases q
  | _ => cases q
theorem See.tuple {o : O} {v : V} {ds : List D} (h : See W H Z o v) (q : o.tp = some ds) : ∃ a vs, v = .ref a ∧ SqT W.K H a vs ∧ RDs W H Z ds vs := by
  obtain ⟨f, h⟩ := h
  cases o with
  | d x =>
    cases x with
    | tup es =>
      have : es = ds := Option.some.inj q
      subst this
      obtain ⟨⟨a, vs, e, hh, r⟩, _⟩ := h
      exact ⟨a, vs, e, hh.sq, r⟩
    | _ => cases q
  | _ => cases q
theorem See.int {i : Int} {v : V} (h : See W H Z (.d (.int i)) v) : v = .int i := h.d
theorem See.str {i : Str} {v : V} (h : See W H Z (.d (.str i)) v) : v = .str i := h.d
theorem See.bl {i : Bool} {v : V} (h : See W H Z (.d (.bl i)) v) : v = .bl i := h.d
/-- a new list of known values -/
theorem RS.newL {ds : List D} {vs : List V} {p : Addr} (r : RS W Z F P e T σ H) (h : RDs W H Z ds vs) (hp : H p = none) : RS W Z (fun a => F a ∨ a = p) P e ((.lst (ds.map O.d), .ref p) :: T) σ (upd H p (.lst vs)) := by
  obtain ⟨⟨fe, ft, h1, h2, nd, hF⟩, sep, zin, fin, pin, px⟩ := r
  have k := same_upd (o := .lst vs) hp
  have kp : Kp H Z (upd H p (.lst vs)) Z := ⟨fun _ h => h, fun a o _ h => k a o h, fun a _ h => k a _ h, fun a _ _ h => k a _ h⟩
  have pF : ∀ a, F a → a ≠ p := fun a fa z => by subst z; exact notMut_none hp (fin a fa)
  refine ⟨⟨fe, p :: ft, h1.keep kp _ _ _ fun a _ u q => k a u q, ⟨.ref p, _, [p], ft, rfl, rfl, ⟨p, vs, [], rfl, upd_same, rfl, (h.keep kp).ros⟩, h2.keep kp _ _ _ fun a _ u q => k a u q⟩, ?_, fun a ha => ?_⟩, fun a ha z => ?_, fun a z q => ?_, fun a ha => ?_, pin, px⟩
  · rw [List.perm_middle.nodup_iff, List.nodup_cons]
    exact ⟨fun z => pF p (hF p z) rfl, nd⟩
  · rcases List.mem_append.mp ha with q | q
    · exact .inl (hF a (List.mem_append_left _ q))
    · rcases List.mem_cons.mp q with q | q
      · exact .inr q
      · exact .inl (hF a (List.mem_append_right _ q))
  · rcases ha with ha | ha
    · exact sep a ha z
    · subst ha; exact zin a z hp
  · exact dom_upd a (zin a z) q
  · rcases ha with ha | ha
    · rw [upd_ne (pF a ha)]; exact fin a ha
    · rw [ha, upd_same]; trivial
/-- a new tuple of known values -/
theorem RS.newT {ds : List D} {vs : List V} {p : Addr} {o : Obj} (r : RS W Z F P e T σ H) (h : RDs W H Z ds vs) (hp : H p = none) (ho : o.dict = none) : RS W Z F P e ((.d (.tup ds), .ref p) :: T) σ (upd H p (.frz o (.tup vs))) := by
  have k := same_upd (o := .frz o (.tup vs)) hp
  have kp : Kp H Z (upd H p (.frz o (.tup vs))) Z := ⟨fun _ h => h, fun a o _ h => k a o h, fun a _ h => k a _ h, fun a _ _ h => k a _ h⟩
  exact (r.grow k).push ⟨p, vs, rfl, .inl ⟨o, upd_same, ho⟩, h.keep kp⟩
theorem BinOk.or {f g : O → O → Option O} {r r' : V → V → Hp → VK → Prop} (a : BinOk W f r) (b : BinOk W g r') : BinOk W (fun x y => match f x y with | some z => some z | none => g x y) (fun x y H Q => r x y H Q ∨ r' x y H Q) := by
  intro Z F P e T σ H x y z v u Q hf sa sb rs k
  cases q : f x y with
  | some w => simp only [q] at hf; exact .inl (a Z F P e T σ H x y w v u Q q sa sb rs (by rw [Option.some.inj hf]; exact k))
  | none => simp only [q] at hf; exact .inr (b Z F P e T σ H x y z v u Q hf sa sb rs k)
theorem UnOk.or {f g : O → Option O} {r r' : V → Hp → VK → Prop} (a : UnOk W f r) (b : UnOk W g r') : UnOk W (fun x => match f x with | some z => some z | none => g x) (fun x H Q => r x H Q ∨ r' x H Q) := by
  intro Z F P e T σ H x z v Q hf sa rs k
  cases q : f x with
  | some w => simp only [q] at hf; exact .inl (a Z F P e T σ H x w v Q q sa rs (by rw [Option.some.inj hf]; exact k))
  | none => simp only [q] at hf; exact .inr (b Z F P e T σ H x z v Q hf sa rs k)

/-! ### ints -/
def onI (g : Int → Int → Option D) : O → O → Option O
  | .d (.int i), .d (.int j) => (g i j).map .d
  | _, _ => none
theorem onI_some {g : Int → Int → Option D} {a b z : O} (h : onI g a b = some z) : ∃ i j x, a = .d (.int i) ∧ b = .d (.int j) ∧ g i j = some x ∧ z = .d x := by
  unfold onI at h
  split at h
  · rename_i i j
    cases q : g i j with
    | none => rw [q] at h; cases h
    | some x => rw [q] at h; exact ⟨i, j, x, rfl, rfl, q, (Option.some.inj h).symm⟩
  · cases h
theorem binI {C : Int → Int → Prop} {k : Int → Int → V} {g : Int → Int → Option D} (hg : ∀ i j x, g i j = some x → C i j ∧ ∀ H Z, RD W H Z x (k i j)) : BinOk W (onI g) (rI C k) := by
  intro Z F P e T σ H a b z v u Q hf sa sb rs kk
  obtain ⟨i, j, x, rfl, rfl, hx, rfl⟩ := onI_some hf
  obtain ⟨hC, hR⟩ := hg i j x hx
  exact ⟨i, j, sa.int, sb.int, hC, done_leaf rs hR kk⟩
theorem binI0 {k : Int → Int → V} {g : Int → Int → D} (hg : ∀ i j H Z, RD W H Z (g i j) (k i j)) : BinOk W (onI fun i j => some (g i j)) (rI0 k) := by
  intro Z F P e T σ H a b z v u Q hf sa sb rs kk
  obtain ⟨i, j, x, rfl, rfl, hx, rfl⟩ := onI_some hf
  have : g i j = x := Option.some.inj hx
  subst this
  exact ⟨i, j, sa.int, sb.int, done_leaf rs (hg i j) kk⟩
def fSub : O → O → Option O := onI fun i j => some (.int (i - j))
theorem bSub : BinOk W fSub (rI0 fun i j => .int (i - j)) := binI0 fun _ _ _ _ => rfl
def fMod : O → O → Option O := onI fun i j => if 0 < j then some (.int (i % j)) else none
theorem bMod : BinOk W fMod (rI (fun _ j => 0 < j) fun i j => .int (i % j)) := binI fun i j x h => by
  split at h
  · rename_i q; cases h; exact ⟨q, fun _ _ => rfl⟩
  · cases h
def fDiv : O → O → Option O := onI fun i j => if 0 < j then if j.natAbs.log2 < 9000 then some (.int (i / j)) else none else none
theorem bDiv : BinOk W fDiv (rI CDivW fun i j => .int (i / j)) := binI fun i j x h => by
  split at h
  · rename_i q
    split at h
    · rename_i q'; cases h; exact ⟨⟨q, q'⟩, fun _ _ => rfl⟩
    · cases h
  · cases h
def isSm (i : Int) : Bool := decide (-(2 ^ 64) < i) && decide (i < 2 ^ 64)
theorem isSm_of {i : Int} (h : isSm i = true) : -(2 ^ 64) < i ∧ i < 2 ^ 64 := by
  unfold isSm at h
  rw [Bool.and_eq_true] at h
  exact ⟨of_decide_eq_true h.1, of_decide_eq_true h.2⟩
def fMulS : O → O → Option O := onI fun i j => if (isSm i || isSm j) = true then some (.int (i * j)) else none
theorem bMulS : BinOk W fMulS (rI CMul fun i j => .int (i * j)) := binI fun i j x h => by
  split at h
  · rename_i q
    cases h
    rw [Bool.or_eq_true] at q
    exact ⟨q.imp isSm_of isSm_of, fun _ _ => rfl⟩
  · cases h
def fMulW : O → O → Option O := onI fun i j => if i.natAbs.log2 + j.natAbs.log2 < 1000000 then some (.int (i * j)) else none
theorem bMulW : BinOk W fMulW (rI CMulW fun i j => .int (i * j)) := binI fun i j x h => by
  split at h
  · rename_i q; cases h; exact ⟨q, fun _ _ => rfl⟩
  · cases h
def fPow : O → O → Option O := onI fun i j => if 0 ≤ j ∧ j ≤ 1000000 ∧ i.natAbs < 2 ^ 64 then some (.int (i ^ j.toNat)) else none
theorem bPow : BinOk W fPow (rI CPow fun i j => .int (i ^ j.toNat)) := binI fun i j x h => by
  split at h
  · rename_i q; cases h; exact ⟨q, fun _ _ => rfl⟩
  · cases h
def fLt : O → O → Option O := onI fun i j => some (.bl (decide (i < j)))
theorem bLt : BinOk W fLt (rI0 fun i j => .bl (decide (i < j))) := binI0 fun _ _ _ _ => rfl
def fLe : O → O → Option O := onI fun i j => some (.bl (decide (i ≤ j)))
theorem bLe : BinOk W fLe (rI0 fun i j => .bl (decide (i ≤ j))) := binI0 fun _ _ _ _ => rfl
def fGt : O → O → Option O := onI fun i j => some (.bl (decide (j < i)))
theorem bGt : BinOk W fGt (rI0 fun i j => .bl (decide (j < i))) := binI0 fun _ _ _ _ => rfl
def fGe : O → O → Option O := onI fun i j => some (.bl (decide (j ≤ i)))
theorem bGe : BinOk W fGe (rI0 fun i j => .bl (decide (j ≤ i))) := binI0 fun _ _ _ _ => rfl
def fNeg : O → Option O
  | .d (.int i) => some (.d (.int (-i)))
  | _ => none
theorem uNeg : UnOk W fNeg (rU fun i => .int (-i)) := by
  intro Z F P e T σ H a z v Q hf sa rs k
  unfold fNeg at hf
  split at hf
  · rename_i i
    cases hf
    exact ⟨_, sa.int, done_leaf (x := .int (-i)) rs (fun _ _ => rfl) k⟩
  · cases hf
/-! ### + -/
def fAddI : O → O → Option O := onI fun i j => some (.int (i + j))
theorem bAddI : BinOk W fAddI (rI0 fun i j => .int (i + j)) := binI0 fun _ _ _ _ => rfl
def fAddS : O → O → Option O
  | .d (.str s), .d (.str t) => if s.length + t.length ≤ sizeLine then some (.d (.str (s ++ t))) else none
  | _, _ => none
theorem bAddS : BinOk W fAddS (fun x y H Q => ∃ i j, x = .str i ∧ y = .str j ∧ i.length + j.length ≤ sizeLine ∧ Q (.str (i ++ j)) H) := by
  intro Z F P e T σ H a b z v u Q hf sa sb rs k
  unfold fAddS at hf
  split at hf
  · rename_i s t
    split at hf
    · rename_i q; cases hf
      exact ⟨_, _, sa.str, sb.str, q, done_leaf (x := .str (s ++ t)) rs (fun _ _ => rfl) k⟩
    · cases hf
  · cases hf
def fCat : O → O → Option O := fun a b => match a.ls, b.ls with
  | some xs, some ys => if xs.length + ys.length ≤ sizeLine then some (.lst ((xs ++ ys).map .d)) else none
  | _, _ => none
theorem See.listR {o : O} {v : V} {ds : List D} (h : See W H Z o v) (q : o.ls = some ds) : ∃ a vs, v = .ref a ∧ Rd H a (.lst vs) ∧ RDs W H Z ds vs := by
  obtain ⟨f, h⟩ := h
  cases o with
  | lst os =>
    obtain ⟨a, vs, f', e, hh, ef, r⟩ := h
    rw [leafs_eq q] at r
    exact ⟨a, vs, e, .inl hh, r.rds⟩
  | d x =>
    cases x with
    | lst es =>
      have : es = ds := Option.some.inj q
      subst this
      obtain ⟨⟨a, vs, e, hh, r⟩, _⟩ := h
      exact ⟨a, vs, e, hh.2, r⟩
    | _ => cases q
  | _ => cases q
def rCatR : R2 := fun x y H Q => ∃ a b xs ys, x = .ref a ∧ y = .ref b ∧ Rd H a (.lst xs) ∧ Rd H b (.lst ys) ∧ xs.length + ys.length ≤ sizeLine ∧ ∀ p, H p = none → Q (.ref p) (upd H p (.lst (xs ++ ys)))
theorem op_catR : OpR X (binaryOp .Add) rCatR := by
  intro pins s σ H x y v u Q I rx ry h
  obtain ⟨l, b, xs, zs, rfl, rfl, hH, hB, hz, q⟩ := h
  cases rx
  cases ry
  obtain ⟨z, its, n, r, e⟩ := hH.ok I.hok
  obtain ⟨z2, its2, n2, r2, e2⟩ := hB.ok I.hok
  have hl := r.length
  have hl2 := r2.length
  refine PySem.P.add_list e e2 ?_ (by rw [List.size_toArray, List.size_toArray]; omega)
  have ea : its.toArray ++ its2.toArray = (its ++ its2).toArray := by simp
  rw [ea]
  exact ⟨.ref _, _, I.lnew (t' := s.toks) (r.append r2) (by rw [List.length_append]; omega), rfl, q _ I.fresh⟩
theorem bCat : BinOk W fCat rCatR := by
  intro Z F P e T σ H a b z v u Q hf sa sb rs k
  unfold fCat at hf
  split at hf
  · rename_i xs ys hx hy
    split at hf
    · rename_i q; cases hf
      obtain ⟨p, vs, e1, h1, r1⟩ := sa.listR hx
      obtain ⟨p', us, e2, h2, r2⟩ := sb.listR hy
      refine ⟨p, p', vs, us, e1, e2, h1, h2, by rw [← r1.len, ← r2.len]; exact q, fun c hc => k _ _ _ _ (Stp.allocF hc) (rs.newL (r1.append r2) hc)⟩
    · cases hf
  · cases hf
def fCatT : O → O → Option O := fun a b => match a.tp, b.tp with
  | some xs, some ys => if xs.length + ys.length ≤ sizeLine then some (.d (.tup (xs ++ ys))) else none
  | _, _ => none
theorem bCatT : BinOk W fCatT (rCatN W.K) := by
  intro Z F P e T σ H a b z v u Q hf sa sb rs k
  unfold fCatT at hf
  split at hf
  · rename_i xs ys hx hy
    split at hf
    · rename_i q; cases hf
      obtain ⟨p, vs, e1, h1, r1⟩ := sa.tuple hx
      obtain ⟨p', us, e2, h2, r2⟩ := sb.tuple hy
      have d1 : RD W H Z (.tup xs) v := by
        cases a with
        | d x =>
          cases x with
          | tup es =>
            have : es = xs := Option.some.inj hx
            subst this; exact sa.d
          | _ => cases hx
        | _ => cases hx
      have d2 : RD W H Z (.tup ys) u := by
        cases b with
        | d x =>
          cases x with
          | tup es =>
            have : es = ys := Option.some.inj hy
            subst this; exact sb.d
          | _ => cases hy
        | _ => cases hy
      refine ⟨p, p', vs, us, e1, e2, h1, h2, by rw [← r1.len, ← r2.len]; exact q, fun hv => ?_, fun hv hu => ?_, fun hv hu c o hc ho => k _ _ _ _ (Stp.alloc hc) (rs.newT (r1.append r2) hc ho)⟩
      · subst hv
        have : xs = [] := List.length_eq_zero_iff.mp r1.len
        subst this
        exact k _ _ _ _ .refl (rs.push (by rw [← e2]; exact d2))
      · subst hu
        have : ys = [] := List.length_eq_zero_iff.mp r2.len
        subst this
        exact k _ _ _ _ .refl (rs.push (by rw [← e1, List.append_nil]; exact d1))
    · cases hf
  · cases hf
/-! ### a subscript -/
def fIxL : O → O → Option O
  | a, .d (.int i) => match a.ls with
    | some xs => (atI xs i).map .d
    | none => none
  | _, _ => none
theorem atI_map {α β : Type} {R : α → β → Prop} {xs : List α} {ys : List β} (hl : xs.length = ys.length) (h : ∀ (j : Nat) x, xs[j]? = some x → ∃ y, ys[j]? = some y ∧ R x y) {i : Int} {x : α} (e : atI xs i = some x) : ∃ y, atI ys i = some y ∧ R x y := by
  unfold atI at *
  cases q : ixN xs.length i with
  | none => rw [q] at e; cases e
  | some j =>
    rw [q] at e
    obtain ⟨y, hy, r⟩ := h j x e
    exact ⟨y, by rw [← hl, q]; exact hy, r⟩
theorem bIxL : BinOk W fIxL (rIxL W.K) := by
  intro Z F P e T σ H a b z v u Q hf sa sb rs k
  unfold fIxL at hf
  split at hf
  · split at hf
    · rename_i xs hx
      cases q : atI xs ‹Int› with
      | none => rw [q] at hf; cases hf
      | some x =>
        rw [q] at hf; cases hf
        obtain ⟨p, vs, e1, h1, r1⟩ := sa.list hx
        obtain ⟨y, hy, ry⟩ := atI_map r1.len (fun j x hx => r1.get hx) q
        exact ⟨p, vs, _, y, e1, sb.int, h1, hy, k _ _ _ _ .refl (rs.push ry)⟩
    · cases hf
  · cases hf
def fIxT : O → O → Option O
  | a, .d (.int i) => match a.tp with
    | some xs => (atI xs i).map .d
    | none => none
  | _, _ => none
theorem bIxT : BinOk W fIxT (rIxT W.K) := by
  intro Z F P e T σ H a b z v u Q hf sa sb rs k
  unfold fIxT at hf
  split at hf
  · split at hf
    · rename_i xs hx
      cases q : atI xs ‹Int› with
      | none => rw [q] at hf; cases hf
      | some x =>
        rw [q] at hf; cases hf
        obtain ⟨p, vs, e1, h1, r1⟩ := sa.tuple hx
        obtain ⟨y, hy, ry⟩ := atI_map r1.len (fun j x hx => r1.get hx) q
        exact ⟨p, vs, _, y, e1, sb.int, h1, hy, k _ _ _ _ .refl (rs.push ry)⟩
    · cases hf
  · cases hf
def fIxS : O → O → Option O
  | .d (.str s), .d (.int i) => if s.length ≤ sizeLine then (atI s.cps.toList i).map fun c => .d (.str ⟨#[c]⟩) else none
  | _, _ => none
theorem bIxS : BinOk W fIxS rIxS := by
  intro Z F P e T σ H a b z v u Q hf sa sb rs k
  unfold fIxS at hf
  split at hf
  · rename_i s i
    split at hf
    · rename_i hl
      cases q : atI s.cps.toList i with
      | none => rw [q] at hf; cases hf
      | some x =>
        rw [q] at hf; cases hf
        exact ⟨_, _, x, sa.str, sb.int, hl, q, done_leaf (x := .str ⟨#[x]⟩) rs (fun _ _ => rfl) k⟩
    · cases hf
  · cases hf
theorem he_ix {a b : Expr} {r} {f : O → O → Option O} {da db : En → Rs Ar} (ho : IxR X r) (hf : BinOk (Cx.wd X cl) f r) (ha : HV X cl Wo a da) (hb : HV X cl Wo b db) (hs : PlainIx b) : HE X cl Wo (.Subscript a b pos) (dBin f da db) :=
  PE.imp (pe_ix ho ha hb hs) fun σ H Q h => rd2 hf h
end
end MX

/-! MX4: truth, tests, equality, membership, argument lists, displays, built-in calls. -/
namespace MX
open PySem L2
section
variable {X : Cx} {cl : Cl} {Wo : WX} {pos : Pos}
variable {W : Wd} {Z F Z' F' : Addr → Prop} {P : Nat → V} {e : En} {T : Ts} {σ : L2.St} {H H' : Hp} {Q : VK}
/-! ### tests -/
def dTst (d : En → Rs O) : En → Rs Bool := fun e => (d e).bind fun o e1 => match o with
  | .d (.bl b) => .ok b e1
  | _ => .bad
theorem rdT_of {d : En → Rs O} {Q : Bool → Hp → Prop} (h : rdT W Wo (dTst d) σ H Q) : rdE W Wo d σ H fun z H' => ∃ k, z = .bl k ∧ Q k H' := by
  obtain ⟨Z, F, P, e, T, r0, k⟩ := h
  refine ⟨Z, F, P, e, T, r0, ?_⟩
  unfold dTst at k
  cases q : d e with
  | bad => rw [q] at k; exact k
  | exc c ps e' => rw [q] at k; exact k
  | ok o e1 =>
    rw [q] at k
    simp only [Rs.bind] at k
    intro v Z1 F1 H1 s1 r1
    cases o with
    | d x =>
      cases x with
      | bl b => exact ⟨b, r1.topD, k Z1 F1 H1 s1 r1.pop⟩
      | _ => exact k.elim
    | _ => exact k.elim
theorem ht_val {ex : Expr} {d : En → Rs O} (h : HE X cl Wo ex d) (he : ∀ whole, isTrue ex X.env whole = (do let v ← whole; standAt ex.pos; holding [v] (truthy v)) := by intro _; rfl) : HT X cl Wo ex (dTst d) :=
  PT.imp (pt_val h he) fun σ H Q h => rdT_of h
theorem ht_cmp {a b : Expr} {op : CmpOp} {r} {f : O → O → Option O} {da db : En → Rs Ar} (ho : OpR X (compareOp op) r) (hf : BinOk (Cx.wd X cl) f r) (ha : HV X cl Wo a da) (hb : HV X cl Wo b db) (hm : behindInMarks op b = false) : HT X cl Wo (.Compare a [op] [b] pos) (dTst (dBin f da db)) :=
  PT.imp (pt_cmpR ho ha hb hm) fun σ H Q h => rd2 hf (rdT_of h)
/-- a < b < c -/
def dChain (f g : O → O → Option O) (da db dc : En → Rs Ar) : En → Rs O := fun e => (da e).bind fun x e1 => (db e1).bind fun y e2 => match x.get e2, y.get e2 with
  | some a, some b => match f a b with
    | some (.d (.bl true)) => (dc e2).bind fun z e3 => match y.get e3, z.get e3 with
      | some b', some c => fin (g b' c) e3
      | _, _ => .bad
    | some (.d (.bl false)) => .ok (.d (.bl false)) e2
    | _ => .bad
  | _, _ => .bad
theorem rdChain {f g : O → O → Option O} {r r' : V → V → Hp → VK → Prop} {da db dc : En → Rs Ar} (hf : BinOk W f r) (hg : BinOk W g r') (h : rdE W Wo (dChain f g da db dc) σ H Q) :
    rdV W Wo da σ H fun v H1 => rdV W Wo db σ H1 fun u H2 => r v u H2 fun z H3 => ∃ k, z = .bl k ∧ (if k = true then rdV W Wo dc σ H3 fun w' H4 => r' u w' H4 Q else Q (.bl false) H3) := by
  obtain ⟨Z, F, P, e, T, r0, k⟩ := h
  refine ⟨Z, F, P, e, T, r0, ?_⟩
  unfold dChain at k
  cases qa : da e with
  | bad => rw [qa] at k; exact k
  | exc c ps e' => rw [qa] at k; exact k
  | ok x e1 =>
    intro v Z1 F1 H1 s1 r1 a1
    rw [qa] at k
    refine ⟨Z1, F1, P, e1, x.tmp v ++ T, r1, ?_⟩
    simp only [Rs.bind] at k
    cases qb : db e1 with
    | bad => rw [qb] at k; exact k
    | exc c ps e' => rw [qb] at k; exact XOk.pops (XOk.step s1 k)
    | ok y e2 =>
      intro u Z2 F2 H2 s2 r2 a2
      rw [qb] at k
      simp only [Rs.bind] at k
      cases gx : x.get e2 with
      | none => rw [gx] at k; exact k.elim
      | some a =>
        cases gy : y.get e2 with
        | none => rw [gx, gy] at k; exact k.elim
        | some b =>
          rw [gx, gy] at k
          obtain ⟨sb, r3⟩ := see_tmp r2 a2 gy
          obtain ⟨sa, r4⟩ := see_tmp r3 a1 gx
          cases qz : f a b with
          | none => simp only [qz] at k; exact k.elim
          | some z =>
            simp only [qz] at k
            refine hf Z2 F2 P e2 (y.tmp u ++ (x.tmp v ++ T)) σ H2 a b z v u _ qz sa sb r2 fun w Z3 F3 H3 s3 r5 => ?_
            cases z with
            | d zz =>
              cases zz with
              | bl bb =>
                refine ⟨bb, r5.topD, ?_⟩
                have r6 := r5.pop
                cases bb with
                | false =>
                  refine iteF ?_
                  exact k _ Z3 F3 H3 ((s1.trans s2).trans s3) ((r6.appPop).appPop.push (x := .bl false) (v := .bl false) rfl)
                | true =>
                  refine iteT ?_
                  refine ⟨Z3, F3, P, e2, y.tmp u ++ (x.tmp v ++ T), r6, ?_⟩
                  cases qc : dc e2 with
                  | bad => rw [qc] at k; exact k.elim
                  | exc c ps e' => rw [qc] at k; exact XOk.pops (XOk.pops (XOk.step ((s1.trans s2).trans s3) k))
                  | ok zc e3 =>
                    rw [qc] at k
                    simp only [Rs.bind] at k
                    intro w' Z4 F4 H4 s4 r7 a3
                    cases gy' : y.get e3 with
                    | none => rw [gy'] at k; exact k.elim
                    | some b' =>
                      cases gz : zc.get e3 with
                      | none => rw [gy', gz] at k; exact k.elim
                      | some c =>
                        rw [gy', gz] at k
                        obtain ⟨sc, r8⟩ := see_tmp r7 a3 gz
                        obtain ⟨sb', r9⟩ := see_tmp r8 a2 gy'
                        cases qg : g b' c with
                        | none => simp only [fin, qg] at k; exact k.elim
                        | some zg =>
                          simp only [fin, qg] at k
                          exact hg Z4 F4 P e3 T σ H4 b' c zg u w' Q qg sb' sc r9.appPop fun w5 Z5 F5 H5 s5 r10 => k w5 Z5 F5 H5 ((((s1.trans s2).trans s3).trans s4).trans s5) r10
              | _ => exact k.elim
            | _ => exact k.elim
theorem he_chain {a b c : Expr} {op op' : CmpOp} {r r'} {f g : O → O → Option O} {da db dc : En → Rs Ar} (ho : OpR X (compareOp op) r) (ho' : OpR X (compareOp op') r') (hf : BinOk (Cx.wd X cl) f r) (hg : BinOk (Cx.wd X cl) g r')
    (h : PE X (.Compare a [op, op'] [b, c] pos) (tChain r r' (rdV (Cx.wd X cl) Wo da) (rdV (Cx.wd X cl) Wo db) (rdV (Cx.wd X cl) Wo dc))) : HE X cl Wo (.Compare a [op, op'] [b, c] pos) (dChain f g da db dc) :=
  PE.imp h fun σ H Q h => rdChain hf hg h
theorem ht_chain {a b c : Expr} {op op' : CmpOp} {r r'} {f g : O → O → Option O} {da db dc : En → Rs Ar} (ho : OpR X (compareOp op) r) (ho' : OpR X (compareOp op') r') (hf : BinOk (Cx.wd X cl) f r) (hg : BinOk (Cx.wd X cl) g r')
    (h : PT X (.Compare a [op, op'] [b, c] pos) (tTest (tChain r r' (rdV (Cx.wd X cl) Wo da) (rdV (Cx.wd X cl) Wo db) (rdV (Cx.wd X cl) Wo dc)))) : HT X cl Wo (.Compare a [op, op'] [b, c] pos) (dTst (dChain f g da db dc)) :=
  PT.imp h fun σ H Q h => rdChain hf hg (rdT_of h)
/-! ### and, or, not -/
def HW (X : Cx) (cl : Cl) (Wo : WX) (e : Expr) (d : En → Rs Bool) : Prop := PW X e (rdT (Cx.wd X cl) Wo d)
def dAndT (a b : En → Rs Bool) : En → Rs Bool := fun e => (a e).bind fun k e1 => if k = true then b e1 else .ok false e1
def dOrT (a b : En → Rs Bool) : En → Rs Bool := fun e => (a e).bind fun k e1 => if k = true then .ok true e1 else b e1
def dNotT (a : En → Rs Bool) : En → Rs Bool := fun e => (a e).bind fun k e1 => .ok (!k) e1
theorem rdT_step {a : En → Rs Bool} {g : Bool → En → Rs Bool} {K : Bool → Hp → Prop} {Q : Bool → Hp → Prop} (h : rdT W Wo (fun e => (a e).bind g) σ H Q) (hk : ∀ b H1, rdT W Wo (g b) σ H1 Q → K b H1) : rdT W Wo a σ H K := by
  obtain ⟨Z, F, P, e, T, r0, k⟩ := h
  refine ⟨Z, F, P, e, T, r0, ?_⟩
  cases qa : a e with
  | bad => simp only [qa] at k; exact k
  | exc c ps e' => simp only [qa] at k; exact k
  | ok b e1 =>
    simp only [qa, Rs.bind] at k
    intro Z1 F1 H1 s1 r1
    refine hk b H1 ⟨Z1, F1, P, e1, T, r1, ?_⟩
    cases qb : g b e1 with
    | bad => rw [qb] at k; exact k
    | exc c ps e' => rw [qb] at k; exact XOk.step s1 k
    | ok b' e2 => rw [qb] at k; exact fun Z2 F2 H2 s2 r2 => k Z2 F2 H2 (s1.trans s2) r2
theorem rdT_ok {b : Bool} {Q : Bool → Hp → Prop} (h : rdT W Wo (fun e => .ok b e) σ H Q) : Q b H := by
  obtain ⟨Z, F, P, e, T, r0, k⟩ := h
  exact k Z F H .refl r0
theorem hw_and1 {a : Expr} {d} (h : HT X cl Wo a d) : HW X cl Wo (.BoolOp .And [a] pos) d := pw_and1 h
theorem hw_or1 {a : Expr} {d} (h : HT X cl Wo a d) : HW X cl Wo (.BoolOp .Or [a] pos) d := pw_or1 h
theorem hw_and {a b : Expr} {rest : List Expr} {d d'} (h : HT X cl Wo a d) (h' : HW X cl Wo (.BoolOp .And (b :: rest) pos) d') : HW X cl Wo (.BoolOp .And (a :: b :: rest) pos) (dAndT d d') :=
  PW.imp (pw_and h h') fun σ H Q h => rdT_step h fun b H1 q => by
    cases b with
    | true => exact iteT q
    | false => exact iteF (rdT_ok q)
theorem hw_or {a b : Expr} {rest : List Expr} {d d'} (h : HT X cl Wo a d) (h' : HW X cl Wo (.BoolOp .Or (b :: rest) pos) d') : HW X cl Wo (.BoolOp .Or (a :: b :: rest) pos) (dOrT d d') :=
  PW.imp (pw_or h h') fun σ H Q h => rdT_step h fun b H1 q => by
    cases b with
    | true => exact iteT (rdT_ok q)
    | false => exact iteF q
theorem ht_w {ex : Expr} {d} (h : HW X cl Wo ex d) : HT X cl Wo ex d := PW.pt h
theorem ht_not {a : Expr} {d} (h : HT X cl Wo a d) : HT X cl Wo (.UnaryOp .Not a pos) (dNotT d) :=
  PT.imp (pt_not h) fun σ H Q h => rdT_step h fun b H1 q => rdT_ok q
/-- as values -/
def dAndV (a b : En → Rs O) : En → Rs O := fun e => (dTst a e).bind fun k e1 => if k = true then b e1 else .ok (.d (.bl false)) e1
def dOrV (a b : En → Rs O) : En → Rs O := fun e => (dTst a e).bind fun k e1 => if k = true then .ok (.d (.bl true)) e1 else b e1
def dNotV (a : En → Rs O) : En → Rs O := fun e => (dTst a e).bind fun k e1 => .ok (.d (.bl (!k))) e1
theorem rdT_stepE {a : En → Rs Bool} {g : Bool → En → Rs O} {K : Bool → Hp → Prop} {Q : VK} (h : rdE W Wo (fun e => (a e).bind g) σ H Q) (hk : ∀ b H1, rdE W Wo (g b) σ H1 Q → K b H1) : rdT W Wo a σ H K := by
  obtain ⟨Z, F, P, e, T, r0, k⟩ := h
  refine ⟨Z, F, P, e, T, r0, ?_⟩
  cases qa : a e with
  | bad => simp only [qa] at k; exact k
  | exc c ps e' => simp only [qa] at k; exact k
  | ok b e1 =>
    simp only [qa, Rs.bind] at k
    intro Z1 F1 H1 s1 r1
    refine hk b H1 ⟨Z1, F1, P, e1, T, r1, ?_⟩
    cases qb : g b e1 with
    | bad => rw [qb] at k; exact k
    | exc c ps e' => rw [qb] at k; exact XOk.step s1 k
    | ok b' e2 => rw [qb] at k; exact fun v Z2 F2 H2 s2 r2 => k v Z2 F2 H2 (s1.trans s2) r2
theorem rdE_leaf {x : D} {v : V} {Q : VK} (hv : ∀ H Z, RD W H Z x v) (h : rdE W Wo (fun e => .ok (.d x) e) σ H Q) : Q v H := by
  obtain ⟨Z, F, P, e, T, r0, k⟩ := h
  exact k v Z F H .refl (r0.push (hv H Z))
theorem he_one {a : Expr} {op} {d} (h : HE X cl Wo a d) : HE X cl Wo (.BoolOp op [a] pos) d := pe_one h
theorem he_and {a b : Expr} {rest : List Expr} {d d'} (h : HE X cl Wo a d) (h' : HE X cl Wo (.BoolOp .And (b :: rest) pos) d') : HE X cl Wo (.BoolOp .And (a :: b :: rest) pos) (dAndV d d') :=
  PE.imp (pe_and h h') fun σ H Q h => rdT_of (rdT_stepE h fun b H1 q => by
    cases b with
    | true => exact iteT q
    | false => exact iteF (rdE_leaf (x := .bl false) (fun _ _ => rfl) q))
theorem he_or {a b : Expr} {rest : List Expr} {d d'} (h : HE X cl Wo a d) (h' : HE X cl Wo (.BoolOp .Or (b :: rest) pos) d') : HE X cl Wo (.BoolOp .Or (a :: b :: rest) pos) (dOrV d d') :=
  PE.imp (pe_or h h') fun σ H Q h => rdT_of (rdT_stepE h fun b H1 q => by
    cases b with
    | true => exact iteT (rdE_leaf (x := .bl true) (fun _ _ => rfl) q)
    | false => exact iteF q)
theorem he_not {a : Expr} {d} (h : HE X cl Wo a d) : HE X cl Wo (.UnaryOp .Not a pos) (dNotV d) :=
  PE.imp (pe_not h) fun σ H Q h => rdT_of (rdT_stepE h fun b H1 q => rdE_leaf (x := .bl (!b)) (fun _ _ => rfl) q)
def dIf (c : En → Rs Bool) (a b : En → Rs O) : En → Rs O := fun e => (c e).bind fun k e1 => if k = true then a e1 else b e1
theorem he_if {c a b : Expr} {dc da db} (hc : HT X cl Wo c dc) (ha : HE X cl Wo a da) (hb : HE X cl Wo b db) : HE X cl Wo (.IfExp c a b pos) (dIf dc da db) :=
  PE.imp (pe_ifExp hc ha hb) fun σ H Q h => rdT_stepE h fun b H1 q => by
    cases b with
    | true => exact iteT q
    | false => exact iteF q
/-! ### is None, ==, in -/
def O.isN : O → Bool
  | .d .non => true
  | _ => false
theorem See.isN {o : O} {v : V} (h : See W H Z o v) : decide (v = .non) = o.isN := by
  obtain ⟨f, h⟩ := h
  cases o with
  | d x =>
    obtain ⟨h, _⟩ := h
    cases x with
    | non => rw [show v = .non from h]; rfl
    | bl b => rw [show v = .bl b from h]; rfl
    | int i => rw [show v = .int i from h]; rfl
    | str i => rw [show v = .str i from h]; rfl
    | ty i => rw [show v = .ty i from h]; rfl
    | cls n => obtain ⟨a, _, rfl⟩ := h; rfl
    | adr a => rw [show v = .ref a from h]; rfl
    | tup xs => obtain ⟨a, vs, rfl, _⟩ := h; rfl
    | lst xs => obtain ⟨a, vs, rfl, _⟩ := h; rfl
    | dic ks xs => obtain ⟨a, vs, rfl, _⟩ := h; rfl
    | obj c ns xs => obtain ⟨a, C, dx, fs, rfl, _⟩ := h; rfl
  | lst xs => obtain ⟨a, vs, f', rfl, _⟩ := h; rfl
  | dic ks xs => obtain ⟨a, vs, f', rfl, _⟩ := h; rfl
  | obj c ns xs => obtain ⟨a, C, dx, fs, f', rfl, _⟩ := h; rfl
def fIsN : O → O → Option O
  | a, .d .non => some (.d (.bl a.isN))
  | _, _ => none
theorem bIsN : BinOk W fIsN (fun x y H Q => y = .non ∧ Q (.bl (decide (x = .non))) H) := by
  intro Z F P e T σ H a b z v u Q hf sa sb rs k
  unfold fIsN at hf
  split at hf
  · cases hf
    exact ⟨sb.d, by rw [sa.isN]; exact done_leaf (x := .bl a.isN) rs (fun _ _ => rfl) k⟩
  · cases hf
def fNotN : O → O → Option O
  | a, .d .non => some (.d (.bl (!a.isN)))
  | _, _ => none
theorem bNotN : BinOk W fNotN (fun x y H Q => y = .non ∧ Q (.bl (!decide (x = .non))) H) := by
  intro Z F P e T σ H a b z v u Q hf sa sb rs k
  unfold fNotN at hf
  split at hf
  · cases hf
    exact ⟨sb.d, by rw [sa.isN]; exact done_leaf (x := .bl (!a.isN)) rs (fun _ _ => rfl) k⟩
  · cases hf
mutual
def D.py : D → Option PyData
  | .non => some .none
  | .bl b => some (.bool b)
  | .int i => some (.int i)
  | .str s => some (.str s)
  | .tup xs => (pys xs).map .tuple
  | .lst xs => (pys xs).map .list
  | _ => none
def pys : List D → Option (List PyData)
  | [] => some []
  | x :: xs => match x.py, pys xs with
    | some p, some ps => some (p :: ps)
    | _, _ => none
end
mutual
theorem RD.dp : ∀ (d : D) (v : V) (p : PyData), RD W H Z d v → d.py = some p → Dp W.K H v p
  | .non, v, p, h, e => by cases e; rw [show v = .non from h]; exact .non
  | .bl b, v, p, h, e => by cases e; rw [show v = .bl b from h]; exact .bl b
  | .int b, v, p, h, e => by cases e; rw [show v = .int b from h]; exact .int b
  | .str b, v, p, h, e => by cases e; rw [show v = .str b from h]; exact .str b
  | .tup xs, v, p, ⟨a, vs, ev, hh, r⟩, e => by
    cases q : pys xs with
    | none => simp [D.py, q] at e
    | some ps =>
      simp only [D.py, q, Option.map_some, Option.some.injEq] at e
      subst e ev
      exact .tup hh.sq (RDs.dp xs vs ps r q)
  | .lst xs, v, p, ⟨a, vs, ev, hh, r⟩, e => by
    cases q : pys xs with
    | none => simp [D.py, q] at e
    | some ps =>
      simp only [D.py, q, Option.map_some, Option.some.injEq] at e
      subst e ev
      exact .lst (.inl hh.2) (RDs.dp xs vs ps r q)
  | .ty _, _, _, _, e => by cases e
  | .cls _, _, _, _, e => by cases e
  | .adr _, _, _, _, e => by cases e
  | .dic _ _, _, _, _, e => by cases e
  | .obj _ _ _, _, _, _, e => by cases e
theorem RDs.dp : ∀ (ds : List D) (vs : List V) (ps : List PyData), RDs W H Z ds vs → pys ds = some ps → DpAll W.K H vs ps
  | [], vs, ps, h, e => by cases e; rw [show vs = [] from h]; exact .nil
  | d :: ds, vs, ps, ⟨v, r, ev, h1, h2⟩, e => by
    cases q1 : d.py with
    | none => simp [pys, q1] at e
    | some p =>
      cases q2 : pys ds with
      | none => simp [pys, q1, q2] at e
      | some qs =>
        simp only [pys, q1, q2, Option.some.injEq] at e
        subst e ev
        exact .cons (RD.dp d v p h1 q1) (RDs.dp ds r qs h2 q2)
end
/-- two flat things of one kind -/
def deqS (a b : O) : Option Bool := match a, b with
  | .d (.int i), .d (.int j) => some (decide (i = j))
  | .d (.str i), .d (.str j) => some (decide (i = j))
  | .d (.bl i), .d (.bl j) => some (decide (i = j))
  | _, _ => none
/-- data of any depth -/
def deqD (a b : O) : Option Bool := match a.fz.py, b.fz.py with
  | some p, some q => if (SeqAt.shaped p && SeqAt.shaped q) = true then some (PyData.eqv p q) else none
  | _, _ => none
def deq (a b : O) : Option Bool := match deqS a b with
  | some c => some c
  | none => deqD a b
theorem deqS_ok {a b : O} {v u : V} {c : Bool} (h : deqS a b = some c) (sa : See W H Z a v) (sb : See W H Z b u) : scal v u = true ∧ decide (v = u) = c := by
  unfold deqS at h
  split at h
  · rename_i i j; cases h
    rw [sa.int, sb.int]
    exact ⟨rfl, by simp⟩
  · rename_i i j; cases h
    rw [sa.str, sb.str]
    exact ⟨rfl, by simp⟩
  · rename_i i j; cases h
    rw [sa.bl, sb.bl]
    exact ⟨rfl, by simp⟩
  · cases h
theorem deqD_ok {a b : O} {v u : V} {c : Bool} (h : deqD a b = some c) (sa : See W H Z a v) (sb : See W H Z b u) : ∃ p q, Dp W.K H v p ∧ Dp W.K H u q ∧ SeqAt.shaped p = true ∧ SeqAt.shaped q = true ∧ PyData.eqv p q = c := by
  unfold deqD at h
  split at h
  · rename_i p q hp hq
    split at h
    · rename_i hs; cases h
      rw [Bool.and_eq_true] at hs
      exact ⟨p, q, RD.dp _ _ _ sa.all hp, RD.dp _ _ _ sb.all hq, hs.1, hs.2, rfl⟩
    · cases h
  · cases h
def fEq : O → O → Option O := fun a b => (deq a b).map fun c => .d (.bl c)
def fNe : O → O → Option O := fun a b => (deq a b).map fun c => .d (.bl (!c))
theorem bEq : BinOk W fEq (fun x y H Q => rEq x y H Q ∨ rEqD W.K x y H Q) := by
  intro Z F P e T σ H a b z v u Q hf sa sb rs k
  unfold fEq deq at hf
  cases q1 : deqS a b with
  | some c =>
    rw [q1] at hf; cases hf
    obtain ⟨h1, h2⟩ := deqS_ok q1 sa sb
    exact .inl ⟨h1, by rw [h2]; exact done_leaf (x := .bl c) rs (fun _ _ => rfl) k⟩
  | none =>
    rw [q1] at hf
    cases q : deqD a b with
    | none => rw [q] at hf; cases hf
    | some c =>
      rw [q] at hf; cases hf
      obtain ⟨p, p', h1, h2, h3, h4, h5⟩ := deqD_ok q sa sb
      exact .inr ⟨p, p', h1, h2, h3, h4, by rw [h5]; exact done_leaf (x := .bl c) rs (fun _ _ => rfl) k⟩
theorem bNe : BinOk W fNe (fun x y H Q => rNe x y H Q ∨ rNeD W.K x y H Q) := by
  intro Z F P e T σ H a b z v u Q hf sa sb rs k
  unfold fNe deq at hf
  cases q1 : deqS a b with
  | some c =>
    rw [q1] at hf; cases hf
    obtain ⟨h1, h2⟩ := deqS_ok q1 sa sb
    exact .inl ⟨h1, by rw [h2]; exact done_leaf (x := .bl (!c)) rs (fun _ _ => rfl) k⟩
  | none =>
    rw [q1] at hf
    cases q : deqD a b with
    | none => rw [q] at hf; cases hf
    | some c =>
      rw [q] at hf; cases hf
      obtain ⟨p, p', h1, h2, h3, h4, h5⟩ := deqD_ok q sa sb
      exact .inr ⟨p, p', h1, h2, h3, h4, by rw [h5]; exact done_leaf (x := .bl (!c)) rs (fun _ _ => rfl) k⟩
/-- flat values -/
def D.flat : D → Option V
  | .non => some .non
  | .bl b => some (.bl b)
  | .int i => some (.int i)
  | .str s => some (.str s)
  | _ => none
theorem RD.flat {d : D} {v w : V} (h : RD W H Z d v) (q : d.flat = some w) : v = w ∧ flatV v = true := by
  cases d <;> first
    | (cases q; exact ⟨h, by rw [show v = _ from h]; rfl⟩)
    | cases q
def flats : List D → Option (List V)
  | [] => some []
  | d :: ds => match d.flat, flats ds with
    | some v, some vs => some (v :: vs)
    | _, _ => none
theorem RDs.flats : ∀ {ds : List D} {vs ws : List V}, RDs W H Z ds vs → flats ds = some ws → vs = ws ∧ vs.all flatV = true
  | [], vs, ws, h, e => by cases e; rw [show vs = [] from h]; exact ⟨rfl, rfl⟩
  | d :: ds, vs, ws, ⟨v, r, ev, h1, h2⟩, e => by
    cases q1 : d.flat with
    | none => simp [MX.flats, q1] at e
    | some p =>
      cases q2 : MX.flats ds with
      | none => simp [MX.flats, q1, q2] at e
      | some qs =>
        simp only [MX.flats, q1, q2, Option.some.injEq] at e
        subst e ev
        obtain ⟨a1, a2⟩ := h1.flat q1
        obtain ⟨b1, b2⟩ := RDs.flats h2 q2
        exact ⟨by rw [a1, b1], by rw [List.all_cons, a2, b2]; rfl⟩
def O.items : O → Option (List D)
  | .lst os => leafs os
  | .d (.lst ds) => some ds
  | .d (.tup ds) => some ds
  | _ => none
theorem See.seq {o : O} {v : V} {ds : List D} (h : See W H Z o v) (q : o.items = some ds) : ∃ a vs, v = .ref a ∧ (SqL W.K H a vs ∨ SqT W.K H a vs) ∧ RDs W H Z ds vs := by
  cases o with
  | lst os =>
    obtain ⟨a, vs, e, h1, r⟩ := h.list (ds := ds) q
    exact ⟨a, vs, e, .inl h1, r⟩
  | d x =>
    cases x with
    | lst es =>
      obtain ⟨a, vs, e, h1, r⟩ := h.list (ds := ds) q
      exact ⟨a, vs, e, .inl h1, r⟩
    | tup es =>
      obtain ⟨a, vs, e, h1, r⟩ := h.tuple (ds := ds) q
      exact ⟨a, vs, e, .inr h1, r⟩
    | _ => cases q
  | _ => cases q
def din (a b : O) : Option Bool := match a, b.items with
  | .d x, some ds => match x.flat, flats ds with
    | some v, some vs => some (inV v vs)
    | _, _ => none
  | _, _ => none
theorem din_ok {a b : O} {v u : V} {c : Bool} (h : din a b = some c) (sa : See W H Z a v) (sb : See W H Z b u) : ∃ p xs, u = .ref p ∧ (SqL W.K H p xs ∨ SqT W.K H p xs) ∧ flatV v = true ∧ xs.all flatV = true ∧ inV v xs = c := by
  unfold din at h
  split at h
  · rename_i x ds hb
    split at h
    · rename_i w ws h1 h2; cases h
      obtain ⟨p, vs, e, hq, r⟩ := sb.seq hb
      obtain ⟨a1, a2⟩ := sa.d.flat h1
      obtain ⟨b1, b2⟩ := r.flats h2
      exact ⟨p, vs, e, hq, a2, b2, by rw [a1, b1]⟩
    · cases h
  · cases h
def fIn : O → O → Option O := fun a b => (din a b).map fun c => .d (.bl c)
def fNin : O → O → Option O := fun a b => (din a b).map fun c => .d (.bl (!c))
theorem bIn : BinOk W fIn (rIn W.K false) := by
  intro Z F P e T σ H a b z v u Q hf sa sb rs k
  unfold fIn at hf
  cases q : din a b with
  | none => rw [q] at hf; cases hf
  | some c =>
    rw [q] at hf; cases hf
    obtain ⟨p, xs, h1, h2, h3, h4, h5⟩ := din_ok q sa sb
    exact ⟨p, xs, h1, h2, h3, h4, by rw [h5]; exact done_leaf (x := .bl c) rs (fun _ _ => rfl) k⟩
theorem bNin : BinOk W fNin (rIn W.K true) := by
  intro Z F P e T σ H a b z v u Q hf sa sb rs k
  unfold fNin at hf
  cases q : din a b with
  | none => rw [q] at hf; cases hf
  | some c =>
    rw [q] at hf; cases hf
    obtain ⟨p, xs, h1, h2, h3, h4, h5⟩ := din_ok q sa sb
    exact ⟨p, xs, h1, h2, h3, h4, by rw [h5]; exact done_leaf (x := .bl (!c)) rs (fun _ _ => rfl) k⟩
end
end MX

/-! MX5: argument lists, displays, built-in calls. -/
namespace MX
open PySem L2
section
variable {X : Cx} {cl : Cl} {Wo : WX} {pos : Pos}
variable {W : Wd} {Z F Z' F' : Addr → Prop} {P : Nat → V} {e : En} {T : Ts} {σ : L2.St} {H H' : Hp} {Q : VK}
theorem Rs.bind_ok {α β : Type} {x : α} {f : α → En → Rs β} : (Rs.ok x e).bind f = f x e := rfl
/-! ### values made, as a list -/
def aNil : En → Rs (List O) := fun e => .ok [] e
def aCons (d : En → Rs O) (r : En → Rs (List O)) : En → Rs (List O) := fun e => (d e).bind fun o e1 => (r e1).bind fun os e2 => .ok (o :: os) e2
theorem ha_nil : HA X cl Wo [] aNil := PA.imp pa_nil fun σ H Q ⟨Z, F, P, e, T, r, k⟩ => k [] Z F H rfl .refl r
theorem rdA_cons {d : En → Rs O} {r : En → Rs (List O)} {g : O → List O → List O} {gv : V → List V → List V} {Q : List V → Hp → Prop} (hl : ∀ o os v vs, os.length = vs.length → (g o os).length = (gv v vs).length)
    (hp : ∀ o os v vs, os.length = vs.length → ((os.zip vs) ++ [(o, v)]).Perm ((g o os).zip (gv v vs)))
    (h : rdA W Wo (fun e => (d e).bind fun o e1 => (r e1).bind fun os e2 => .ok (g o os) e2) σ H Q) : rdE W Wo d σ H fun x H1 => rdA W Wo r σ H1 fun xs H2 => Q (gv x xs) H2 := by
  obtain ⟨Z, F, P, e, T, r0, k⟩ := h
  refine ⟨Z, F, P, e, T, r0, ?_⟩
  cases qa : d e with
  | bad => simp only [qa] at k; exact k
  | exc c ps e' => simp only [qa] at k; exact k
  | ok o e1 =>
    simp only [qa, Rs.bind_ok] at k
    intro v Z1 F1 H1 s1 r1
    refine ⟨Z1, F1, P, e1, (o, v) :: T, r1, ?_⟩
    cases qb : r e1 with
    | bad => simp only [qb] at k; exact k
    | exc c ps e' => simp only [qb] at k; exact XOk.popped (XOk.step s1 k)
    | ok os e2 =>
      simp only [qb] at k
      intro vs Z2 F2 H2 hlen s2 r2
      refine k (gv v vs) Z2 F2 H2 (hl o os v vs hlen) (s1.trans s2) (r2.perm ?_)
      have := (hp o os v vs hlen).append_right T
      rw [List.append_assoc] at this
      exact this
theorem ha_cons {a : Expr} {es : List Expr} {d r} (ha : HE X cl Wo a d) (hr : HA X cl Wo es r) (hs : starEach (a :: es) X.env = (false, eval a X.env) :: starEach es X.env := by rfl) : HA X cl Wo (a :: es) (aCons d r) :=
  PA.imp (pa_cons ha hr hs) fun σ H Q h => rdA_cons (g := fun o os => o :: os) (gv := fun v vs => v :: vs) (fun o os v vs h => by rw [List.length_cons, List.length_cons, h]) (fun o os v vs h => by
    rw [List.zip_cons_cons]
    exact List.perm_append_comm) h
/-- all held values of a list made known -/
theorem RS.freezeAll : ∀ {os : List O} {vs : List V} {Z F : Addr → Prop} {T : Ts}, os.length = vs.length → RS W Z F P e (os.zip vs ++ T) σ H → ∃ Z' F', Stp Z F H Z' F' H ∧ RS W Z' F' P e T σ H ∧ RDs W H Z' (fzs os) vs
  | [], vs, Z, F, T, hl, r => by
    have : vs = [] := List.length_eq_zero_iff.mp hl.symm
    subst this
    exact ⟨Z, F, .refl, r, rfl⟩
  | o :: os, [], _, _, _, hl, _ => by cases hl
  | o :: os, v :: vs, Z, F, T, hl, r => by
    have hl' : os.length = vs.length := Nat.succ.inj hl
    have r1 : RS W Z F P e ((o, v) :: (os.zip vs ++ T)) σ H := r
    obtain ⟨Z1, F1, s1, r2⟩ := r1.freeze
    have r3 : RS W Z1 F1 P e (os.zip vs ++ ((.d o.fz, v) :: T)) σ H := r2.perm List.perm_middle.symm
    obtain ⟨Z2, F2, s2, r4, rd⟩ := RS.freezeAll hl' r3
    exact ⟨Z2, F2, s1.trans s2, r4.pop, v, vs, rfl, r4.topD, rd⟩
/-- a tuple display -/
def dTup (d : En → Rs (List O)) : En → Rs O := fun e => (d e).bind fun os e1 => if os.length ≤ sizeLine then .ok (.d (.tup (fzs os))) e1 else .bad
theorem rdA_step {d : En → Rs (List O)} {g : List O → En → Rs O} {K : List V → Hp → Prop} (h : rdE W Wo (fun e => (d e).bind g) σ H Q)
    (hk : ∀ Z F P e T H1 os vs, os.length = vs.length → RS W Z F P e (os.zip vs ++ T) σ H1 → PostE W Wo Z F P T σ H1 Q (g os e) → K vs H1) : rdA W Wo d σ H K := by
  obtain ⟨Z, F, P, e, T, r0, k⟩ := h
  refine ⟨Z, F, P, e, T, r0, ?_⟩
  cases qa : d e with
  | bad => simp only [qa] at k; exact k
  | exc c ps e' => simp only [qa] at k; exact k
  | ok os e1 =>
    simp only [qa, Rs.bind_ok] at k
    intro vs Z1 F1 H1 hl s1 r1
    refine hk Z1 F1 P e1 T H1 os vs hl r1 ?_
    cases qb : g os e1 with
    | bad => rw [qb] at k; exact k
    | exc c ps e' => rw [qb] at k; exact XOk.step s1 k
    | ok b' e2 => rw [qb] at k; exact fun v Z2 F2 H2 s2 r2 => k v Z2 F2 H2 (s1.trans s2) r2
theorem he_tup {es : List Expr} {x1} {d} (h : HA X cl Wo es d) : HE X cl Wo (.Tuple es x1 pos) (dTup d) :=
  PE.imp (pe_tupN h) fun σ H Q h => rdA_step h fun Z F P e T H1 os vs hl r k => by
    split at k
    · rename_i q
      refine ⟨by rw [← hl]; exact q, fun p o hp ho => ?_⟩
      obtain ⟨Z', F', s1, r1, rd⟩ := r.freezeAll hl
      exact k _ Z' F' _ (s1.trans (Stp.alloc hp)) (r1.newT rd hp ho)
    · exact k.elim
/-- a new list that owns what is put into it -/
theorem RS.newO {os : List O} {vs : List V} {p : Addr} (r : RS W Z F P e (os.zip vs ++ T) σ H) (hl : os.length = vs.length) (hp : H p = none) : RS W Z (fun a => F a ∨ a = p) P e ((.lst os, .ref p) :: T) σ (upd H p (.lst vs)) := by
  obtain ⟨⟨fe, ft, h1, h2, nd, hF⟩, sep, zin, fin, pin, px⟩ := r
  have k := same_upd (o := .lst vs) hp
  have kp : Kp H Z (upd H p (.lst vs)) Z := ⟨fun _ h => h, fun a o _ h => k a o h, fun a _ h => k a _ h, fun a _ _ h => k a _ h⟩
  have pF : ∀ a, F a → a ≠ p := fun a fa z => by subst z; exact notMut_none hp (fin a fa)
  rw [List.map_append, List.map_append, List.map_fst_zip (Nat.le_of_eq hl), List.map_snd_zip (Nat.le_of_eq hl.symm)] at h2
  obtain ⟨vs', us, f1, f2, ew, ef, a1, a2⟩ := h2.split
  have hvs : vs' = vs ∧ us = T.map (·.2) := by
    have hl2 : vs'.length = vs.length := by rw [← a1.len, hl]
    have := List.append_inj ew hl2.symm
    exact ⟨this.1.symm, this.2.symm⟩
  obtain ⟨rfl, rfl⟩ := hvs
  subst ef
  refine ⟨⟨fe, p :: (f1 ++ f2), h1.keep kp _ _ _ fun a _ u q => k a u q, ⟨.ref p, _, p :: f1, f2, rfl, rfl, ⟨p, vs', f1, rfl, upd_same, rfl, a1.keep kp _ _ _ fun a _ u q => k a u q⟩, a2.keep kp _ _ _ fun a _ u q => k a u q⟩, ?_, fun a ha => ?_⟩, fun a ha z => ?_, fun a z q => ?_, fun a ha => ?_, pin, px⟩
  · rw [List.perm_middle.nodup_iff, List.nodup_cons]
    exact ⟨fun z => pF p (hF p z) rfl, nd⟩
  · rcases List.mem_append.mp ha with q | q
    · exact .inl (hF a (List.mem_append_left _ q))
    · rcases List.mem_cons.mp q with q | q
      · exact .inr q
      · exact .inl (hF a (List.mem_append_right _ q))
  · rcases ha with ha | ha
    · exact sep a ha z
    · subst ha; exact zin a z hp
  · exact dom_upd a (zin a z) q
  · rcases ha with ha | ha
    · rw [upd_ne (pF a ha)]; exact fin a ha
    · rw [ha, upd_same]; trivial
def dLst (d : En → Rs (List O)) : En → Rs O := fun e => (d e).bind fun os e1 => if os.length ≤ sizeLine then .ok (.lst os) e1 else .bad
theorem he_lst {es : List Expr} {d} (h : HA X cl Wo es d) : HE X cl Wo (.List es pos) (dLst d) :=
  PE.imp (pe_lst h) fun σ H Q h => rdA_step h fun Z F P e T H1 os vs hl r k => by
    split at k
    · rename_i q
      exact ⟨by rw [← hl]; exact q, fun p hp => k _ Z _ _ (Stp.allocF hp) (r.newO hl hp)⟩
    · exact k.elim
/-- *e in a display: the items, known -/
def aStar (d : En → Rs Ar) (r : En → Rs (List O)) : En → Rs (List O) := fun e => (d e).bind fun x e1 => match x.get e1 with
  | some a => match a.items with
    | some ds => (r e1).bind fun os e2 => .ok (ds.map .d ++ os) e2
    | none => .bad
  | none => .bad
theorem ros_leaf : ∀ {ds : List D} {vs : List V}, RDs W H Z ds vs → ∀ {T : Ts}, RS W Z F P e T σ H → RS W Z F P e ((ds.map O.d).zip vs ++ T) σ H
  | [], vs, h, T, r => by
    have : vs = [] := h
    subst this; exact r
  | d :: ds, vs, ⟨v, rr, ev, h1, h2⟩, T, r => by
    subst ev
    exact (ros_leaf h2 r).push h1
theorem ha_star {a : Expr} {p : Pos} {es : List Expr} {d r} (ha : HV X cl Wo a d) (hr : HA X cl Wo es r) (hs : starEach (.Starred a p :: es) X.env = (true, eval a X.env) :: starEach es X.env := by rfl) : HA X cl Wo (.Starred a p :: es) (aStar d r) :=
  PA.imp (StX.pa_star ha hr hs) fun σ H Q ⟨Z, F, P, e, T, r0, k⟩ => by
    refine ⟨Z, F, P, e, T, r0, ?_⟩
    unfold aStar at k
    cases qa : d e with
    | bad => simp only [qa] at k; exact k
    | exc c ps e' => simp only [qa] at k; exact k
    | ok x e1 =>
      simp only [qa, Rs.bind_ok] at k
      intro v Z1 F1 H1 s1 r1 a1
      cases gx : x.get e1 with
      | none => rw [gx] at k; exact k.elim
      | some a =>
        rw [gx] at k
        simp only at k
        cases gi : a.items with
        | none => rw [gi] at k; exact k.elim
        | some ds =>
          rw [gi] at k
          simp only at k
          obtain ⟨sa, r2⟩ := see_tmp r1 a1 gx
          obtain ⟨c, vs, ev, hq, rd⟩ := sa.seq gi
          refine ⟨c, vs, ev, hq.elim .inr .inl, Z1, F1, P, e1, (ds.map O.d).zip vs ++ T, ros_leaf rd r2, ?_⟩
          cases qb : r e1 with
          | bad => simp only [qb] at k; exact k.elim
          | exc c ps e' => simp only [qb] at k; exact XOk.pops (XOk.step s1 k)
          | ok os e2 =>
            simp only [qb] at k
            intro ws Z2 F2 H2 hl s2 r3
            refine k (vs ++ ws) Z2 F2 H2 (by rw [List.length_append, List.length_append, List.length_map, rd.len, hl]) (s1.trans s2) (r3.perm ?_)
            rw [List.zip_append (by rw [List.length_map, rd.len]), ← List.append_assoc]
            exact List.Perm.append_right _ List.perm_append_comm
/-! ### operands, as a list -/
def tmps : List Ar → List V → Ts
  | x :: xs, v :: vs => tmps xs vs ++ x.tmp v
  | _, _ => []
def ats (σ : L2.St) : List Ar → List V → Prop
  | x :: xs, v :: vs => x.at σ v ∧ ats σ xs vs
  | _, _ => True
def gets (e : En) : List Ar → Option (List O)
  | [] => some []
  | x :: xs => match x.get e, gets e xs with
    | some o, some os => some (o :: os)
    | _, _ => none
def PostVs (W : Wd) (Wo : WX) (Z F : Addr → Prop) (P : Nat → V) (T : Ts) (σ : L2.St) (H : Hp) (Q : List V → Hp → Prop) : Rs (List Ar) → Prop
  | .ok xs e => ∀ vs Z' F' H', xs.length = vs.length → Stp Z F H Z' F' H' → RS W Z' F' P e (tmps xs vs ++ T) σ H' → ats σ xs vs → Q vs H'
  | .exc c ps e => XOk W Wo Z F P T σ H c ps e
  | .bad => False
def rdVs (W : Wd) (Wo : WX) (d : En → Rs (List Ar)) : TA := fun σ H Q => ∃ Z F P e T, RS W Z F P e T σ H ∧ PostVs W Wo Z F P T σ H Q (d e)
def HVs (X : Cx) (cl : Cl) (Wo : WX) (es : List Expr) (d : En → Rs (List Ar)) : Prop := PA X es (rdVs (Cx.wd X cl) Wo d)
def vNil : En → Rs (List Ar) := fun e => .ok [] e
def vCons (d : En → Rs Ar) (r : En → Rs (List Ar)) : En → Rs (List Ar) := fun e => (d e).bind fun x e1 => (r e1).bind fun xs e2 => .ok (x :: xs) e2
theorem hvs_nil : HVs X cl Wo [] vNil := PA.imp pa_nil fun σ H Q ⟨Z, F, P, e, T, r, k⟩ => k [] Z F H rfl .refl r trivial
theorem hvs_cons {a : Expr} {es : List Expr} {d r} (ha : HV X cl Wo a d) (hr : HVs X cl Wo es r) (hs : starEach (a :: es) X.env = (false, eval a X.env) :: starEach es X.env := by rfl) : HVs X cl Wo (a :: es) (vCons d r) :=
  PA.imp (pa_cons ha hr hs) fun σ H Q ⟨Z, F, P, e, T, r0, k⟩ => by
    refine ⟨Z, F, P, e, T, r0, ?_⟩
    unfold vCons at k
    cases qa : d e with
    | bad => simp only [qa] at k; exact k
    | exc c ps e' => simp only [qa] at k; exact k
    | ok x e1 =>
      simp only [qa, Rs.bind_ok] at k
      intro v Z1 F1 H1 s1 r1 a1
      refine ⟨Z1, F1, P, e1, x.tmp v ++ T, r1, ?_⟩
      cases qb : r e1 with
      | bad => simp only [qb] at k; exact k
      | exc c ps e' => simp only [qb] at k; exact XOk.pops (XOk.step s1 k)
      | ok xs e2 =>
        simp only [qb] at k
        intro vs Z2 F2 H2 hl s2 r2 a2
        exact k (v :: vs) Z2 F2 H2 (by rw [List.length_cons, List.length_cons, hl]) (s1.trans s2) (by rw [show tmps (x :: xs) (v :: vs) = tmps xs vs ++ x.tmp v from rfl, List.append_assoc]; exact r2) ⟨a1, a2⟩
/-- all are looked at -/
def Sees (W : Wd) (H : Hp) (Z : Addr → Prop) : List O → List V → Prop
  | [], [] => True
  | o :: os, v :: vs => See W H Z o v ∧ Sees W H Z os vs
  | _, _ => False
theorem sees_tmps : ∀ {xs : List Ar} {vs : List V} {os : List O} {T : Ts}, xs.length = vs.length → RS W Z F P e (tmps xs vs ++ T) σ H → ats σ xs vs → gets e xs = some os → Sees W H Z os vs ∧ RS W Z F P e T σ H
  | [], [], os, T, _, r, _, g => by cases g; exact ⟨trivial, r⟩
  | [], _ :: _, _, _, hl, _, _, _ => by cases hl
  | _ :: _, [], _, _, hl, _, _, _ => by cases hl
  | x :: xs, v :: vs, os, T, hl, r, a, g => by
    unfold gets at g
    cases g1 : x.get e with
    | none => rw [g1] at g; cases g
    | some o =>
      cases g2 : gets e xs with
      | none => rw [g1, g2] at g; cases g
      | some ps =>
        rw [g1, g2] at g
        cases g
        rw [show tmps (x :: xs) (v :: vs) = tmps xs vs ++ x.tmp v from rfl, List.append_assoc] at r
        obtain ⟨h1, h2⟩ := sees_tmps (Nat.succ.inj hl) r a.2 g2
        obtain ⟨h3, h4⟩ := see_tmp h2 a.1 g1
        exact ⟨⟨h3, h1⟩, h4⟩
def dCall (f : List O → Option O) (d : En → Rs (List Ar)) : En → Rs O := fun e => (d e).bind fun xs e1 => match gets e1 xs with
  | some os => fin (f os) e1
  | none => .bad
def CallOk (W : Wd) (f : List O → Option O) (r : List V → Hp → VK → Prop) : Prop :=
  ∀ Z F P e T σ H os z vs Q, f os = some z → Sees W H Z os vs → RS W Z F P e T σ H → (∀ w Z' F' H', Stp Z F H Z' F' H' → RS W Z' F' P e ((z, w) :: T) σ H' → Q w H') → r vs H Q
theorem rdCall {f : List O → Option O} {r : List V → Hp → VK → Prop} {d : En → Rs (List Ar)} (hf : CallOk W f r) (h : rdE W Wo (dCall f d) σ H Q) : rdVs W Wo d σ H fun vs H1 => r vs H1 Q := by
  obtain ⟨Z, F, P, e, T, r0, k⟩ := h
  refine ⟨Z, F, P, e, T, r0, ?_⟩
  unfold dCall at k
  cases qa : d e with
  | bad => rw [qa] at k; exact k
  | exc c ps e' => rw [qa] at k; exact k
  | ok xs e1 =>
    intro vs Z1 F1 H1 hl s1 r1 a1
    rw [qa] at k
    simp only [Rs.bind_ok] at k
    cases g : gets e1 xs with
    | none => rw [g] at k; exact k.elim
    | some os =>
      rw [g] at k
      obtain ⟨ss, r2⟩ := sees_tmps hl r1 a1 g
      cases qz : f os with
      | none => simp only [fin, qz] at k; exact k.elim
      | some z =>
        simp only [fin, qz] at k
        exact hf Z1 F1 P e1 T σ H1 os z vs Q qz ss r2 fun w Z' F' H' s3 r5 => k w Z' F' H' (s1.trans s3) r5
theorem he_callB {x : Str} {p : Pos} {a : Expr} {es : List Expr} {id : String} {r} {f} {d} (hc : CallR X (.builtin id) r) (hf : CallOk (Cx.wd X cl) f r) (hg : Gl X x) (hm : X.mg x = none) (hv : bootBuiltins x = some (.builtin id)) (ha : HVs X cl Wo (a :: es) d) (hn : x ≠ "__name__" := by decide) (hdb : (x == ("__debug__" : Str)) = false := by decide)
    (he : starEach (a :: es) X.env = (false, eval a X.env) :: starEach es X.env := by rfl) (hpl : (backTo pos (starEach es X.env)).any (·.1) = false := by rfl) : HE X cl Wo (.Call (.Name x p) (a :: es) [] pos) (dCall f d) :=
  PE.imp (pe_callB hc hg hm hv ha hn hdb he hpl) fun σ H Q h => rdCall hf h
theorem he_callTy {x : Str} {p : Pos} {a : Expr} {es : List Expr} {id : String} {r} {f} {d} (hc : CallR X (.type id) r) (hf : CallOk (Cx.wd X cl) f r) (hg : Gl X x) (hm : X.mg x = none) (hv : bootBuiltins x = some (.type id)) (ha : HVs X cl Wo (a :: es) d) (hn : x ≠ "__name__" := by decide) (hdb : (x == ("__debug__" : Str)) = false := by decide)
    (he : starEach (a :: es) X.env = (false, eval a X.env) :: starEach es X.env := by rfl) (hpl : (backTo pos (starEach es X.env)).any (·.1) = false := by rfl) : HE X cl Wo (.Call (.Name x p) (a :: es) [] pos) (dCall f d) :=
  PE.imp (pe_callTy hc hg hm hv ha hn hdb he hpl) fun σ H Q h => rdCall hf h
/-! ### the built-in functions -/
theorem Sees.one {o : O} {vs : List V} (h : Sees W H Z [o] vs) : ∃ v, vs = [v] ∧ See W H Z o v := by
  match vs, h with
  | [v], ⟨h, _⟩ => exact ⟨v, rfl, h⟩
theorem Sees.two {o p : O} {vs : List V} (h : Sees W H Z [o, p] vs) : ∃ v u, vs = [v, u] ∧ See W H Z o v ∧ See W H Z p u := by
  match vs, h with
  | [v, u], ⟨h, h', _⟩ => exact ⟨v, u, rfl, h, h'⟩
/-- one argument -/
def on1 (f : O → Option O) : List O → Option O
  | [o] => f o
  | _ => none
theorem on1_some {f : O → Option O} {os : List O} {z : O} (h : on1 f os = some z) : ∃ o, os = [o] ∧ f o = some z := by
  unfold on1 at h
  split at h
  · exact ⟨_, rfl, h⟩
  · cases h
def fLen : O → Option O
  | .lst os => some (.d (.int os.length))
  | .d (.lst ds) => some (.d (.int ds.length))
  | .d (.tup ds) => some (.d (.int ds.length))
  | _ => none
theorem cLen : CallOk W (on1 fLen) (fun xs H Q => ∃ p ys, xs = [.ref p] ∧ (SqL W.K H p ys ∨ SqT W.K H p ys) ∧ Q (.int ys.length) H) := by
  intro Z F P e T σ H os z vs Q hf ss rs k
  obtain ⟨o, rfl, hg⟩ := on1_some hf
  clear hf
  obtain ⟨v, rfl, s⟩ := ss.one
  unfold fLen at hg
  split at hg
  · rename_i os
    cases hg
    obtain ⟨f, a, us, f', e, hh, ef, r⟩ := s
    exact ⟨a, us, by rw [e], .inl (.inl (.inl hh)), by rw [← r.len]; exact done_leaf (x := .int os.length) rs (fun _ _ => rfl) k⟩
  · rename_i ds
    cases hg
    obtain ⟨a, us, e, h1, r⟩ := s.list (ds := ds) rfl
    exact ⟨a, us, by rw [e], .inl h1, by rw [← r.len]; exact done_leaf (x := .int ds.length) rs (fun _ _ => rfl) k⟩
  · rename_i ds
    cases hg
    obtain ⟨a, us, e, h1, r⟩ := s.tuple (ds := ds) rfl
    exact ⟨a, us, by rw [e], .inr h1, by rw [← r.len]; exact done_leaf (x := .int ds.length) rs (fun _ _ => rfl) k⟩
  · cases hg
def fLenS : O → Option O
  | .d (.str s) => if s.length ≤ sizeLine then some (.d (.int s.length)) else none
  | _ => none
theorem cLenS : CallOk W (on1 fLenS) (fun xs H Q => ∃ z, xs = [.str z] ∧ z.length ≤ sizeLine ∧ Q (.int z.length) H) := by
  intro Z F P e T σ H os z vs Q hf ss rs k
  obtain ⟨o, rfl, hg⟩ := on1_some hf
  clear hf
  obtain ⟨v, rfl, s⟩ := ss.one
  unfold fLenS at hg
  split at hg
  · rename_i x
    split at hg
    · rename_i q; cases hg
      exact ⟨x, by rw [s.str], q, done_leaf (x := .int x.length) rs (fun _ _ => rfl) k⟩
    · cases hg
  · cases hg
def fInt : O → Option O
  | .d (.int i) => some (.d (.int i))
  | .d (.bl b) => some (.d (.int (if b = true then 1 else 0)))
  | _ => none
theorem cInt : CallOk W (on1 fInt) (fun xs H Q => (∃ i, xs = [.int i] ∧ Q (.int i) H) ∨ ∃ k, xs = [.bl k] ∧ Q (.int (if k then 1 else 0)) H) := by
  intro Z F P e T σ H os z vs Q hf ss rs k
  obtain ⟨o, rfl, hg⟩ := on1_some hf
  clear hf
  obtain ⟨v, rfl, s⟩ := ss.one
  unfold fInt at hg
  split at hg
  · rename_i i; cases hg
    exact .inl ⟨i, by rw [s.int], done_leaf (x := .int i) rs (fun _ _ => rfl) k⟩
  · rename_i b; cases hg
    exact .inr ⟨b, by rw [s.bl], done_leaf (x := .int (if b = true then 1 else 0)) rs (fun _ _ => rfl) k⟩
  · cases hg
def fAbs : O → Option O
  | .d (.int i) => some (.d (.int (if i < 0 then -i else i)))
  | _ => none
theorem cAbs : CallOk W (on1 fAbs) (fun xs H Q => ∃ i, xs = [.int i] ∧ Q (.int (if i < 0 then -i else i)) H) := by
  intro Z F P e T σ H os z vs Q hf ss rs k
  obtain ⟨o, rfl, hg⟩ := on1_some hf
  clear hf
  obtain ⟨v, rfl, s⟩ := ss.one
  unfold fAbs at hg
  split at hg
  · rename_i i; cases hg
    exact ⟨i, by rw [s.int], done_leaf (x := .int (if i < 0 then -i else i)) rs (fun _ _ => rfl) k⟩
  · cases hg
def on2 (f : O → O → Option O) : List O → Option O
  | [a, b] => f a b
  | _ => none
theorem on2_some {f : O → O → Option O} {os : List O} {z : O} (h : on2 f os = some z) : ∃ o p, os = [o, p] ∧ f o p = some z := by
  unfold on2 at h
  split at h
  · exact ⟨_, _, rfl, h⟩
  · cases h
def fMin2 : O → O → Option O := onI fun i j => some (.int (if j < i then j else i))
def fMax2 : O → O → Option O := onI fun i j => some (.int (if j > i then j else i))
theorem cMin2 : CallOk W (on2 fMin2) (fun xs H Q => ∃ i j, xs = [.int i, .int j] ∧ Q (.int (if j < i then j else i)) H) := by
  intro Z F P e T σ H os z vs Q hf ss rs k
  obtain ⟨o, p, rfl, hg⟩ := on2_some hf
  clear hf
  obtain ⟨v, u, rfl, s, s'⟩ := ss.two
  obtain ⟨i, j, x, rfl, rfl, hx, rfl⟩ := onI_some hg
  cases hx
  exact ⟨i, j, by rw [s.int, s'.int], done_leaf (x := .int (if j < i then j else i)) rs (fun _ _ => rfl) k⟩
theorem cMax2 : CallOk W (on2 fMax2) (fun xs H Q => ∃ i j, xs = [.int i, .int j] ∧ Q (.int (if j > i then j else i)) H) := by
  intro Z F P e T σ H os z vs Q hf ss rs k
  obtain ⟨o, p, rfl, hg⟩ := on2_some hf
  clear hf
  obtain ⟨v, u, rfl, s, s'⟩ := ss.two
  obtain ⟨i, j, x, rfl, rfl, hx, rfl⟩ := onI_some hg
  cases hx
  exact ⟨i, j, by rw [s.int, s'.int], done_leaf (x := .int (if j > i then j else i)) rs (fun _ _ => rfl) k⟩
/-- list(x), tuple(x) of a list or tuple -/
def fList (o : O) : Option O := o.items.map fun ds => .lst (ds.map .d)
theorem cList : CallOk W (on1 fList) (fun xs H Q => ∃ p ys, xs = [.ref p] ∧ (SqL W.K H p ys ∨ SqT W.K H p ys) ∧ ∀ l, H l = none → Q (.ref l) (upd H l (.lst ys))) := by
  intro Z F P e T σ H os z vs Q hf ss rs k
  obtain ⟨o, rfl, hg⟩ := on1_some hf
  clear hf
  obtain ⟨v, rfl, s⟩ := ss.one
  unfold fList at hg
  cases q : o.items with
  | none => rw [q] at hg; cases hg
  | some ds =>
    rw [q] at hg; cases hg
    obtain ⟨a, us, e, h1, r⟩ := s.seq q
    exact ⟨a, us, by rw [e], h1, fun l hl => k _ _ _ _ (Stp.allocF hl) (rs.newL r hl)⟩
def fTuple (o : O) : Option O := match o with
  | .d (.tup ds) => some (.d (.tup ds))
  | o => o.ls.map fun ds => .d (.tup ds)
theorem cTuple : CallOk W (on1 fTuple) (rTupOf W.K) := by
  intro Z F P e T σ H os z vs Q hf ss rs k
  obtain ⟨o, rfl, hg⟩ := on1_some hf
  clear hf
  obtain ⟨v, rfl, s⟩ := ss.one
  unfold fTuple at hg
  split at hg
  · rename_i ds; cases hg
    obtain ⟨a, us, e, h1, r⟩ := s.tuple (ds := ds) rfl
    exact ⟨a, us, by rw [e], .inr ⟨h1, k _ _ _ _ .refl (rs.push (by rw [← e]; exact s.d))⟩⟩
  · cases q : o.ls with
    | none => rw [q] at hg; cases hg
    | some ds =>
      rw [q] at hg; cases hg
      obtain ⟨a, us, e, h1, r⟩ := s.list q
      exact ⟨a, us, by rw [e], .inl ⟨h1, fun l o hl ho => k _ _ _ _ (Stp.alloc hl) (rs.newT r hl ho)⟩⟩
/-- a list of ints -/
def intsD : List D → Option (List Int)
  | [] => some []
  | .int i :: r => (intsD r).map (i :: ·)
  | _ :: _ => none
theorem intsD_map : ∀ xs : List Int, intsD (xs.map D.int) = some xs
  | [] => rfl
  | x :: xs => by show (intsD (xs.map D.int)).map (x :: ·) = some (x :: xs); rw [intsD_map xs]; rfl
theorem intsD_rds : ∀ {ds : List D} {ns : List Int} {vs : List V}, intsD ds = some ns → RDs W H Z ds vs → vs = ns.map V.int
  | [], ns, vs, h, r => by
    cases h
    exact r
  | .int i :: ds, ns, vs, h, ⟨v, r, ev, h1, h2⟩ => by
    cases q : intsD ds with
    | none => simp [intsD, q] at h
    | some ms =>
      simp only [intsD, q, Option.map_some, Option.some.injEq] at h
      subst h ev
      rw [show v = .int i from h1, intsD_rds q h2]; rfl
  | .non :: _, _, _, h, _ => by cases h
  | .bl _ :: _, _, _, h, _ => by cases h
  | .str _ :: _, _, _, h, _ => by cases h
  | .ty _ :: _, _, _, h, _ => by cases h
  | .cls _ :: _, _, _, h, _ => by cases h
  | .adr _ :: _, _, _, h, _ => by cases h
  | .tup _ :: _, _, _, h, _ => by cases h
  | .lst _ :: _, _, _, h, _ => by cases h
  | .dic _ _ :: _, _, _, h, _ => by cases h
  | .obj _ _ _ :: _, _, _, h, _ => by cases h
def fSum (o : O) : Option O := (o.ls.bind intsD).map fun ns => .d (.int ns.sum)
theorem cSum : CallOk W (on1 fSum) (rSum W.K) := by
  intro Z F P e T σ H os z vs Q hf ss rs k
  obtain ⟨o, rfl, hg⟩ := on1_some hf
  clear hf
  obtain ⟨v, rfl, s⟩ := ss.one
  unfold fSum at hg
  cases q : o.ls with
  | none => rw [q] at hg; cases hg
  | some ds =>
    rw [q] at hg
    simp only [Option.bind_some] at hg
    cases q2 : intsD ds with
    | none => rw [q2] at hg; cases hg
    | some ns =>
      rw [q2] at hg; cases hg
      obtain ⟨a, us, e, h1, r⟩ := s.list q
      rw [intsD_rds q2 r] at h1
      exact ⟨a, ns, by rw [e], h1, done_leaf (x := .int ns.sum) rs (fun _ _ => rfl) k⟩
end
end MX

/-! MX6: statements. -/
namespace MX
open PySem L2
def PostS (W : Wd) (Wo : WX) (Z F : Addr → Prop) (P : Nat → V) (T : Ts) (H : Hp) (D : Ends) : Out → Prop
  | .nx e => ∀ σ' Z' F' H', Stp Z F H Z' F' H' → RS W Z' F' P e T σ' H' → D.nx σ' H'
  | .rt o e => ∀ v σ' Z' F' H', Stp Z F H Z' F' H' → RS W Z' F' P e ((o, v) :: T) σ' H' → D.rt v H'
  | .bk e => ∀ σ' Z' F' H', Stp Z F H Z' F' H' → RS W Z' F' P e T σ' H' → D.bk σ' H'
  | .ct e => ∀ σ' Z' F' H', Stp Z F H Z' F' H' → RS W Z' F' P e T σ' H' → D.ct σ' H'
  | .exc c ps e => ∀ σ', XOk W Wo Z F P T σ' H c ps e
  | .bad => False
def rdS (W : Wd) (Wo : WX) (d : En → Out) : TS := fun D σ H => ∃ Z F P e T, RS W Z F P e T σ H ∧ PostS W Wo Z F P T H D (d e)
def HS (X : Cx) (cl : Cl) (Wo : WX) (st : Stmt) (d : En → Out) : Prop := PS X st (rdS (Cx.wd X cl) Wo d)
def HSs (X : Cx) (cl : Cl) (Wo : WX) (st : List Stmt) (d : En → Out) : Prop := PSs X st (rdS (Cx.wd X cl) Wo d)
theorem PS.imp {X : Cx} {st : Stmt} {t t' : TS} (h : PS X st t) (k : ∀ D σ H, t' D σ H → t D σ H) : PS X st t' := ⟨fun pins s σ H D I q => h.run pins s σ H D I (k D σ H q)⟩
theorem PSs.imp {X : Cx} {st : List Stmt} {t t' : TS} (h : PSs X st t) (k : ∀ D σ H, t' D σ H → t D σ H) : PSs X st t' := ⟨fun pins s σ H D I q => h.run pins s σ H D I (k D σ H q)⟩
theorem PG.imp {X : Cx} {tg : Expr} {t t' : TG} (h : PG X tg t) (k : ∀ v σ H Q, t' v σ H Q → t v σ H Q) : PG X tg t' := ⟨fun pins s σ H v u Q I r q => h.run pins s σ H v u Q I r (k v σ H Q q)⟩
section
variable {X : Cx} {cl : Cl} {Wo : WX} {pos : Pos}
variable {W : Wd} {Z F Z' F' : Addr → Prop} {P : Nat → V} {e : En} {T : Ts} {σ : L2.St} {H H' : Hp} {Q : VK} {DD : Ends}
theorem PostS.step (s : Stp Z F H Z' F' H') {r : Out} (h : PostS W Wo Z F P T H DD r) : PostS W Wo Z' F' P T H' DD r := by
  cases r with
  | nx e => exact fun σ2 Z2 F2 H2 s2 r2 => h σ2 Z2 F2 H2 (s.trans s2) r2
  | rt o e => exact fun v σ2 Z2 F2 H2 s2 r2 => h v σ2 Z2 F2 H2 (s.trans s2) r2
  | bk e => exact fun σ2 Z2 F2 H2 s2 r2 => h σ2 Z2 F2 H2 (s.trans s2) r2
  | ct e => exact fun σ2 Z2 F2 H2 s2 r2 => h σ2 Z2 F2 H2 (s.trans s2) r2
  | exc c ps e => exact fun σ2 => XOk.step s (h σ2)
  | bad => exact h
theorem PostS.imp {D' : Ends} {T' : Ts} {r : Out} (h : PostS W Wo Z F P T H DD r) (hT : ∀ Z F e σ H, RS W Z F P e T' σ H → RS W Z F P e T σ H) (hR : ∀ o v Z F e σ H, RS W Z F P e ((o, v) :: T') σ H → RS W Z F P e ((o, v) :: T) σ H)
    (h1 : ∀ σ H, DD.nx σ H → D'.nx σ H) (h2 : ∀ v H, DD.rt v H → D'.rt v H) (h3 : ∀ σ H, DD.bk σ H → D'.bk σ H) (h4 : ∀ σ H, DD.ct σ H → D'.ct σ H) : PostS W Wo Z F P T' H D' r := by
  cases r with
  | nx e => exact fun σ2 Z2 F2 H2 s2 r2 => h1 _ _ (h σ2 Z2 F2 H2 s2 (hT _ _ _ _ _ r2))
  | rt o e => exact fun v σ2 Z2 F2 H2 s2 r2 => h2 _ _ (h v σ2 Z2 F2 H2 s2 (hR _ _ _ _ _ _ _ r2))
  | bk e => exact fun σ2 Z2 F2 H2 s2 r2 => h3 _ _ (h σ2 Z2 F2 H2 s2 (hT _ _ _ _ _ r2))
  | ct e => exact fun σ2 Z2 F2 H2 s2 r2 => h4 _ _ (h σ2 Z2 F2 H2 s2 (hT _ _ _ _ _ r2))
  | exc c ps e => exact fun σ2 Z2 F2 H2 C dd hc py s2 r2 => h σ2 Z2 F2 H2 C dd hc py s2 (hT _ _ _ _ _ r2)
  | bad => exact h
/-! ### blocks -/
def sNext : En → Out := fun e => .nx e
def Out.andThen (r : Out) (b : En → Out) : Out := match r with
  | .nx e => b e
  | r => r
def sSeq (a b : En → Out) : En → Out := fun e => (a e).andThen b
theorem hss_nil : HSs X cl Wo [] sNext := PSs.imp pss_nil fun D σ H ⟨Z, F, P, e, T, r, k⟩ => k σ Z F H .refl r
theorem hss_one {st : Stmt} {d} (h : HS X cl Wo st d) : HSs X cl Wo [st] d := pss_one h
theorem hss_cons {st : Stmt} {rest : List Stmt} {d d'} (h : HS X cl Wo st d) (h' : HSs X cl Wo rest d') : HSs X cl Wo (st :: rest) (sSeq d d') :=
  PSs.imp (pss_cons h h') fun D σ H ⟨Z, F, P, e, T, r, k⟩ => by
    refine ⟨Z, F, P, e, T, r, ?_⟩
    unfold sSeq at k
    cases q : d e with
    | nx e1 => rw [q] at k; exact fun σ2 Z2 F2 H2 s2 r2 => ⟨Z2, F2, P, e1, T, r2, PostS.step s2 k⟩
    | rt o e1 => rw [q] at k; exact k
    | bk e1 => rw [q] at k; exact k
    | ct e1 => rw [q] at k; exact k
    | exc c ps e1 => rw [q] at k; exact k
    | bad => rw [q] at k; exact k
theorem hs_pass : HS X cl Wo (.Pass pos) sNext := PS.imp ps_pass fun D σ H ⟨Z, F, P, e, T, r, k⟩ => k σ Z F H .refl r
theorem hs_break : HS X cl Wo (.Break pos) (fun e => .bk e) := PS.imp ps_break fun D σ H ⟨Z, F, P, e, T, r, k⟩ => k σ Z F H .refl r
theorem hs_continue : HS X cl Wo (.Continue pos) (fun e => .ct e) := PS.imp ps_continue fun D σ H ⟨Z, F, P, e, T, r, k⟩ => k σ Z F H .refl r
/-- an expression's result handed to a statement's end -/
def Rs.out {α : Type} (r : Rs α) (g : α → En → Out) : Out := match r with
  | .ok x e => g x e
  | .exc c ps e => .exc c ps e
  | .bad => .bad
theorem rdE_out {d : En → Rs O} {g : O → En → Out} {K : VK} (h : rdS W Wo (fun e => (d e).out g) DD σ H)
    (hk : ∀ Z F P e T o v H1, RS W Z F P e ((o, v) :: T) σ H1 → PostS W Wo Z F P T H1 DD (g o e) → K v H1) : rdE W Wo d σ H K := by
  obtain ⟨Z, F, P, e, T, r, k⟩ := h
  refine ⟨Z, F, P, e, T, r, ?_⟩
  cases q : d e with
  | ok o e1 => simp only [q, Rs.out] at k; exact fun v Z1 F1 H1 s1 r1 => hk Z1 F1 P e1 T o v H1 r1 (PostS.step s1 k)
  | exc c ps e1 => simp only [q, Rs.out] at k; exact k σ
  | bad => simp only [q, Rs.out] at k; exact k
theorem rdT_out {d : En → Rs Bool} {g : Bool → En → Out} {K : Bool → Hp → Prop} (h : rdS W Wo (fun e => (d e).out g) DD σ H)
    (hk : ∀ Z F P e T b H1, RS W Z F P e T σ H1 → PostS W Wo Z F P T H1 DD (g b e) → K b H1) : rdT W Wo d σ H K := by
  obtain ⟨Z, F, P, e, T, r, k⟩ := h
  refine ⟨Z, F, P, e, T, r, ?_⟩
  cases q : d e with
  | ok o e1 => simp only [q, Rs.out] at k; exact fun Z1 F1 H1 s1 r1 => hk Z1 F1 P e1 T o H1 r1 (PostS.step s1 k)
  | exc c ps e1 => simp only [q, Rs.out] at k; exact k σ
  | bad => simp only [q, Rs.out] at k; exact k
def sExpr (d : En → Rs O) : En → Out := fun e => (d e).out fun _ e1 => .nx e1
theorem hs_expr {ex : Expr} {d} (h : HE X cl Wo ex d) (hs : swapsWith ex none pos.line X.env = pure false := by rfl) : HS X cl Wo (.Expr ex pos) (sExpr d) :=
  PS.imp (ps_expr h hs) fun D σ H h => rdE_out h fun Z F P e T o v H1 r k => k σ Z F H1 .refl r.pop
def sRet (d : En → Rs O) : En → Out := fun e => (d e).out fun o e1 => .rt o e1
theorem hs_ret {ex : Expr} {d} (h : HE X cl Wo ex d) : HS X cl Wo (.Return (some ex) pos) (sRet d) :=
  PS.imp (ps_ret h) fun D σ H h => rdE_out h fun Z F P e T o v H1 r k => k v σ Z F H1 .refl r
theorem hs_retN : HS X cl Wo (.Return none pos) (fun e => .rt (.d .non) e) :=
  PS.imp ps_retN fun D σ H ⟨Z, F, P, e, T, r, k⟩ => k .non σ Z F H .refl (r.push (x := .non) (v := .non) rfl)
def sIf (c : En → Rs Bool) (a b : En → Out) : En → Out := fun e => (c e).out fun k e1 => if k = true then a e1 else b e1
theorem hs_if {c : Expr} {a b : List Stmt} {dc da db} (hc : HT X cl Wo c dc) (ha : HSs X cl Wo a da) (hb : HSs X cl Wo b db) : HS X cl Wo (.If c a b pos) (sIf dc da db) :=
  PS.imp (ps_if hc ha hb) fun D σ H h => rdT_out h fun Z F P e T k H1 r q => by
    cases k with
    | true => exact iteT ⟨Z, F, P, e, T, r, q⟩
    | false => exact iteF ⟨Z, F, P, e, T, r, q⟩
/-! ### targets -/
abbrev Tg := O → En → Option En
/-- only slots of vs are changed -/
def Kps (vs : List Nat) (σ σ' : L2.St) : Prop := σ'.length = σ.length ∧ ∀ j, j ∉ vs → σ'[j]? = σ[j]?
theorem Kps.refl {vs : List Nat} : Kps vs σ σ := ⟨rfl, fun _ _ => rfl⟩
theorem Kps.trans {vs : List Nat} {σ1 σ2 σ3 : L2.St} (a : Kps vs σ1 σ2) (b : Kps vs σ2 σ3) : Kps vs σ1 σ3 := ⟨b.1.trans a.1, fun j h => (b.2 j h).trans (a.2 j h)⟩
theorem Kps.set {vs : List Nat} {i : Nat} {x : Option V} (h : i ∈ vs) : Kps vs σ (σ.set i x) := ⟨List.length_set, fun j hj => List.getElem?_set_ne fun e => hj (by rw [← e]; exact h)⟩
def rdG (W : Wd) (ss : List Nat) (t : Tg) : TG := fun v σ H Q => ∃ Z F P e T o, RS W Z F P e ((o, v) :: T) σ H ∧ match t o e with
  | some e' => ∀ σ' Z' F' H', Kps ss σ σ' → Stp Z F H Z' F' H' → RS W Z' F' P e' T σ' H' → Q σ' H'
  | none => False
def HG (X : Cx) (cl : Cl) (tg : Expr) (ss : List Nat) (t : Tg) : Prop := PG X tg (rdG (Cx.wd X cl) ss t)
def setS (e : En) (i : Nat) (o : O) : Option En := match e[i]? with
  | some s => if s.pinned = true then none else some (e.set i (.v o))
  | none => none
theorem RS.store {o : O} {v : V} {i : Nat} {e' : En} (r : RS W Z F P e ((o, v) :: T) σ H) (h : setS e i o = some e') : RS W Z F P e' T (σ.set i (some v)) H := by
  unfold setS at h
  cases q : e[i]? with
  | none => rw [q] at h; cases h
  | some s =>
    rw [q] at h
    simp only at h
    split at h
    · cases h
    · rename_i np
      cases h
      obtain ⟨⟨fe, ft, h1, ⟨v', rr, f1, f2, ev, ef, h2, h3⟩, nd, hF⟩, sep, zin, fin, pin, px⟩ := r
      have e0 : v = v' := (List.cons.inj ev).1
      have e2 : T.map (·.2) = rr := (List.cons.inj ev).2
      subst e0 e2
      have hi : i < (e.map Sl.cont).length := by rw [List.length_map]; exact lt_of_get q
      obtain ⟨g1, g2, g3, eg, hr⟩ := h1.set hi h2
      have pp : (fe ++ ft).Perm (g2 ++ ((g1 ++ f1 ++ g3) ++ f2)) := by
        rw [ef, eg]
        simp only [List.append_assoc]
        refine List.Perm.trans ?_ (List.perm_append_comm_assoc _ _ _)
        refine List.Perm.append_left _ (List.Perm.append_left _ ?_)
        exact List.perm_append_comm_assoc _ _ _
      have nd2 := pp.nodup nd
      refine ⟨⟨g1 ++ f1 ++ g3, f2, ?_, h3, nd2.sublist (List.sublist_append_right _ _), fun a ha => hF a (pp.mem_iff.mpr (List.mem_append_right _ ha))⟩, sep, zin, fin, fun j t hj hp => ?_, px⟩
      · rw [map_set_cont]; exact hr
      · by_cases ij : i = j
        · subst ij
          rw [List.getElem?_set_self (lt_of_get q)] at hj
          cases hj; cases hp
        · rw [List.getElem?_set_ne ij] at hj
          rw [List.getElem?_set_ne ij]
          exact pin j t hj hp
def tName (i : Nat) : Tg := fun o e => setS e i o
theorem hg_name {i : Nat} {x : Str} {ss : List Nat} (h : PG X (.Name x pos) (gName i)) (hi : i ∈ ss := by decide) : HG X cl (.Name x pos) ss (tName i) :=
  PG.imp h fun v σ H Q ⟨Z, F, P, e, T, o, r, k⟩ => by
    unfold tName at k
    cases q : setS e i o with
    | none => rw [q] at k; exact k.elim
    | some e' => rw [q] at k; exact k _ Z F H (.set hi) .refl (r.store q)
/-- several targets -/
abbrev Tgs := List D → En → Option En
def rdGs (W : Wd) (ss : List Nat) (t : Tgs) : TGs := fun vs σ H Q => ∃ Z F P e T ds, ds.length = vs.length ∧ RS W Z F P e ((ds.map O.d).zip vs ++ T) σ H ∧ match t ds e with
  | some e' => ∀ σ' Z' F' H', Kps ss σ σ' → Stp Z F H Z' F' H' → RS W Z' F' P e' T σ' H' → Q σ' H'
  | none => False
def HGs (X : Cx) (cl : Cl) (tg : List Expr) (ss : List Nat) (t : Tgs) : Prop := PGs X tg (rdGs (Cx.wd X cl) ss t)
theorem PGs.imp {tg : List Expr} {t t' : TGs} (h : PGs X tg t) (k : ∀ v σ H Q, t' v σ H Q → t v σ H Q) : PGs X tg t' := ⟨fun pins s σ H v u Q I r q => h.run pins s σ H v u Q I r (k v σ H Q q)⟩
def tgNil : Tgs := fun ds e => match ds with
  | [] => some e
  | _ => none
def tgCons (a : Tg) (b : Tgs) : Tgs := fun ds e => match ds with
  | d :: r => (a (.d d) e).bind fun e1 => b r e1
  | [] => none
theorem hgs_nil {ss : List Nat} : HGs X cl [] ss tgNil := PGs.imp pgs_nil fun vs σ H Q ⟨Z, F, P, e, T, ds, hl, r, k⟩ => by
  cases ds with
  | nil => exact ⟨List.length_eq_zero_iff.mp hl.symm, k σ Z F H .refl .refl r⟩
  | cons _ _ => exact k.elim
theorem hgs_cons {a : Expr} {es : List Expr} {ss : List Nat} {t : Tg} {u : Tgs} (h1 : HG X cl a ss t) (h2 : HGs X cl es ss u) (hs : (assignEach (a :: es) X.env).map (·.2) = assign a X.env :: (assignEach es X.env).map (·.2) := by rfl) : HGs X cl (a :: es) ss (tgCons t u) :=
  PGs.imp (pgs_cons h1 h2 hs) fun vs σ H Q ⟨Z, F, P, e, T, ds, hl, r, k⟩ => by
    cases ds with
    | nil => exact k.elim
    | cons d ds =>
      cases vs with
      | nil => cases hl
      | cons v vs =>
        refine ⟨v, vs, rfl, Z, F, P, e, (ds.map O.d).zip vs ++ T, .d d, r, ?_⟩
        unfold tgCons at k
        simp only at k
        cases q : t (.d d) e with
        | none => rw [q] at k; exact k.elim
        | some e1 =>
          rw [q] at k
          simp only [Option.bind_some] at k
          intro σ1 Z1 F1 H1 k1 s1 r1
          refine ⟨Z1, F1, P, e1, T, ds, Nat.succ.inj hl, r1, ?_⟩
          cases q2 : u ds e1 with
          | none => rw [q2] at k; exact k.elim
          | some e2 => rw [q2] at k; exact fun σ2 Z2 F2 H2 k2 s2 r2 => k σ2 Z2 F2 H2 (k1.trans k2) (s1.trans s2) r2
/-- a tuple's (or list's) parts -/
def tTupl (t : Tgs) : Tg := fun o e => match o with
  | .d (.tup ds) => t ds e
  | _ => none
theorem hg_tup {es : List Expr} {k : Nat} {ss : List Nat} {t : Tgs} {n : Nat} (hc : X.calm = true) (h : HGs X cl es ss t) (hn : (assignEach es X.env).length = n := by rfl) (hst : (assignEach es X.env).findIdx? (·.1) = none := by rfl)
    (hlen : ∀ ds e e', t ds e = some e' → ds.length = n) : HG X cl (.Tuple es k pos) ss (tTupl t) :=
  PG.imp (pg_tup hc h hn hst) fun v σ H Q ⟨Z, F, P, e, T, o, r, k⟩ => by
    unfold tTupl at k
    split at k
    · rename_i e' q
      split at q
      · rename_i ds
        obtain ⟨a, vs, ev, hh, rd⟩ := r.topD
        refine ⟨a, vs, ev, hh.sq, by rw [← rd.len]; exact hlen ds e e' q, Z, F, P, e, T, ds, rd.len, ros_leaf rd r.pop, ?_⟩
        rw [q]; exact k
      · cases q
    · exact k.elim
theorem tg_len0 : ∀ ds e e', tgNil ds e = some e' → ds.length = 0
  | [], _, _, _ => rfl
  | _ :: _, _, _, h => by cases h
theorem tg_len {a : Tg} {b : Tgs} {n : Nat} (h : ∀ ds e e', b ds e = some e' → ds.length = n) : ∀ ds e e', tgCons a b ds e = some e' → ds.length = n + 1
  | [], _, _, q => by cases q
  | d :: ds, e, e', q => by
    unfold tgCons at q
    simp only at q
    cases q1 : a (.d d) e with
    | none => rw [q1] at q; cases q
    | some e1 =>
      rw [q1] at q
      rw [List.length_cons, h ds e1 e' q]
/-! ### stores -/
def sAsg (d : En → Rs O) (t : Tg) : En → Out := fun e => (d e).out fun o e1 => match t o e1 with
  | some e2 => .nx e2
  | none => .bad
theorem hs_asg {tg ex : Expr} {d} {ss : List Nat} {t : Tg} (he : HE X cl Wo ex d) (hg : HG X cl tg ss t) (hs : swapsWithSole [tg] ex pos.line X.env = pure false := by rfl) (hw : swappedStores [tg] ex X.env = pure none := by rfl)
    (h1 : (assignEach [tg] X.env).map (·.2) = [assign tg X.env] := by rfl) : HS X cl Wo (.Assign [tg] ex pos) (sAsg d t) :=
  PS.imp (ps_asg he hg hs hw h1) fun D σ H h => rdE_out h fun Z F P e T o v H1 r k => by
    refine ⟨Z, F, P, e, T, o, r, ?_⟩
    split at k
    · exact fun σ' Z' F' H' _ => k σ' Z' F' H'
    · exact k.elim
/-- x = e as ps_set has it (a comprehension on the right, too) -/
theorem hs_set {tg ex : Expr} {d} {i : Nat} (h : PS X (.Assign [tg] ex pos) (tAsg (rdE (Cx.wd X cl) Wo d) (gName i))) : HS X cl Wo (.Assign [tg] ex pos) (sAsg d (tName i)) :=
  PS.imp h fun D σ H h => rdE_out h fun Z F P e T o v H1 r k => by
    split at k
    · rename_i e2 q; exact k _ Z F H1 .refl (r.store q)
    · exact k.elim
/-- a, b = x, y with plain local names -/
def sPar (i j : Nat) (d : En → Rs (List O)) : En → Out := fun e => (d e).out fun os e1 => match os with
  | [a, b] => match setS e1 i a with
    | some e2 => match setS e2 j b with
      | some e3 => .nx e3
      | none => .bad
    | none => .bad
  | _ => .bad
theorem rdA_out {d : En → Rs (List O)} {g : List O → En → Out} {K : List V → Hp → Prop} (h : rdS W Wo (fun e => (d e).out g) DD σ H)
    (hk : ∀ Z F P e T os vs H1, os.length = vs.length → RS W Z F P e (os.zip vs ++ T) σ H1 → PostS W Wo Z F P T H1 DD (g os e) → K vs H1) : rdA W Wo d σ H K := by
  obtain ⟨Z, F, P, e, T, r, k⟩ := h
  refine ⟨Z, F, P, e, T, r, ?_⟩
  cases q : d e with
  | ok os e1 => simp only [q, Rs.out] at k; exact fun vs Z1 F1 H1 hl s1 r1 => hk Z1 F1 P e1 T os vs H1 hl r1 (PostS.step s1 k)
  | exc c ps e1 => simp only [q, Rs.out] at k; exact k σ
  | bad => simp only [q, Rs.out] at k; exact k
theorem hs_par {i j : Nat} {st : Stmt} {d} (h : PS X st (tPar i j (rdA (Cx.wd X cl) Wo d))) : HS X cl Wo st (sPar i j d) :=
  PS.imp h fun D σ H h => rdA_out h fun Z F P e T os vs H1 hl r k => by
    match os, vs, hl with
    | [a, b], [v, w], _ =>
      refine ⟨v, w, rfl, ?_⟩
      simp only at k
      cases q1 : setS e i a with
      | none => rw [q1] at k; exact k.elim
      | some e2 =>
        rw [q1] at k
        simp only at k
        cases q2 : setS e2 j b with
        | none => rw [q2] at k; exact k.elim
        | some e3 =>
          rw [q2] at k
          exact k _ Z F H1 .refl (RS.store (RS.store r q1) q2)
    | [], _, _ => exact k.elim
    | [_], _, _ => exact k.elim
    | _ :: _ :: _ :: _, _, _ => exact k.elim
/-- x += e -/
def sAug (i : Nat) (f : O → O → Option O) (d : En → Rs Ar) : En → Out := fun e => match slot e i with
  | some _ => (d e).out fun y e1 => match slot e1 i, y.get e1 with
    | some a, some b => match f a b with
      | some z => match setS e1 i z with
        | some e2 => .nx e2
        | none => .bad
      | none => .bad
    | _, _ => .bad
  | none => .bad
theorem hs_aug {i : Nat} {st : Stmt} {d} {r} {f : O → O → Option O} (hf : BinOk (Cx.wd X cl) f r) (h : PS X st (tAug i (rdV (Cx.wd X cl) Wo d) r)) : HS X cl Wo st (sAug i f d) :=
  PS.imp h fun D σ H ⟨Z, F, P, e, T, r0, k⟩ => by
    unfold sAug at k
    cases q : slot e i with
    | none => rw [q] at k; exact k.elim
    | some o =>
      rw [q] at k
      simp only at k
      obtain ⟨x, fx, hx, _⟩ := slot_get r0 q
      refine ⟨x, hx, Z, F, P, e, T, r0, ?_⟩
      cases qd : d e with
      | bad => rw [qd] at k; exact k.elim
      | exc c ps e1 => rw [qd] at k; exact k σ
      | ok y e1 =>
        rw [qd] at k
        simp only [Rs.out] at k
        intro u Z1 F1 H1 s1 r1 a1
        cases q1 : slot e1 i with
        | none => rw [q1] at k; exact k.elim
        | some a =>
          cases q2 : y.get e1 with
          | none => rw [q1, q2] at k; exact k.elim
          | some b =>
            rw [q1, q2] at k
            simp only at k
            obtain ⟨sb, r2⟩ := see_tmp r1 a1 q2
            obtain ⟨x', fx', hx', rx', _⟩ := slot_get r2 q1
            rw [hx] at hx'
            cases hx'
            cases q3 : f a b with
            | none => rw [q3] at k; exact k.elim
            | some z =>
              rw [q3] at k
              simp only at k
              cases q4 : setS e1 i z with
              | none => rw [q4] at k; exact k.elim
              | some e2 =>
                rw [q4] at k
                exact hf Z1 F1 P e1 T σ H1 a b z x u _ q3 ⟨fx', rx'⟩ sb r2 fun w Z2 F2 H2 s2 r3 => k _ Z2 F2 H2 (s1.trans s2) (r3.store q4)
/-! ### while -/
def sWhile (c : En → Rs Bool) (b : En → Out) : Nat → En → Out
  | 0, _ => .bad
  | n + 1, e => (c e).out fun k e1 => if k = true then match b e1 with
      | .nx e2 => sWhile c b n e2
      | .ct e2 => sWhile c b n e2
      | .bk e2 => .nx e2
      | r => r
    else .nx e1
def sWhileF (fu : En → Nat) (c : En → Rs Bool) (b : En → Out) : En → Out := fun e => sWhile c b (fu e) e
theorem hs_while {c : Expr} {body : List Stmt} {dc db} (fu : En → Nat) (hp : PassesOwn (model X.prog X.w) X.A X.env X.xe) (hc : HT X cl Wo c dc) (hb : HSs X cl Wo body db) : HS X cl Wo (.While c body [] pos) (sWhileF fu dc db) :=
  PS.imp (ps_while hp hc hb) fun D σ H ⟨Z, F, P, e, T, r0, k⟩ => by
    refine ⟨fun m σ H => ∃ Z F e, RS (Cx.wd X cl) Z F P e T σ H ∧ PostS (Cx.wd X cl) Wo Z F P T H D (sWhile dc db m e), ⟨fu e, Z, F, e, r0, k⟩, ?_⟩
    rintro m σ H ⟨Z, F, e, r, k⟩
    cases m with
    | zero => exact k.elim
    | succ m =>
      unfold sWhile at k
      refine ⟨Z, F, P, e, T, r, ?_⟩
      cases q : dc e with
      | bad => rw [q] at k; exact k
      | exc c ps e1 => rw [q] at k; exact k σ
      | ok b e1 =>
        rw [q] at k
        simp only [Rs.out] at k
        intro Z1 F1 H1 s1 r1
        cases b with
        | false => refine iteF ?_; exact k σ Z1 F1 H1 s1 r1
        | true =>
          refine iteT ⟨fun σ' H' => ∃ Z F e, RS (Cx.wd X cl) Z F P e T σ' H' ∧ PostS (Cx.wd X cl) Wo Z F P T H' D (sWhile dc db m e), fun σ' H' h => ⟨m, Nat.lt_succ_self m, h⟩, Z1, F1, P, e1, T, r1, ?_⟩
          simp only [if_true] at k
          cases qb : db e1 with
          | nx e2 => rw [qb] at k; exact fun σ2 Z2 F2 H2 s2 r2 => ⟨Z2, F2, e2, r2, PostS.step (s1.trans s2) k⟩
          | ct e2 => rw [qb] at k; exact fun σ2 Z2 F2 H2 s2 r2 => ⟨Z2, F2, e2, r2, PostS.step (s1.trans s2) k⟩
          | bk e2 => rw [qb] at k; exact fun σ2 Z2 F2 H2 s2 r2 => k σ2 Z2 F2 H2 (s1.trans s2) r2
          | rt o e2 => rw [qb] at k; exact fun v σ2 Z2 F2 H2 s2 r2 => k v σ2 Z2 F2 H2 (s1.trans s2) r2
          | exc c ps e2 => rw [qb] at k; exact fun σ2 => XOk.step s1 (k σ2)
          | bad => rw [qb] at k; exact k
/-! ### for -/
/-- what the iterator J does while T2 is held: it yields ds -/
def ItOk (W : Wd) (J : It) (T2 : Ts) (ds : List D) : Prop :=
  ∀ (i : Nat) (Z F : Addr → Prop) (P : Nat → V) (e : En) (T : Ts) (σ : L2.St) (H : Hp), RS W Z F P e (T2 ++ T) σ H →
    (∀ d, ds[i]? = some d → J.go i H ∧ ∀ x H', J.yld i H x H' → ∃ Z' F', Stp Z F H Z' F' H' ∧ RS W Z' F' P e ((.d d, x) :: (T2 ++ T)) σ H') ∧ (i = ds.length → J.stop i H)
def rdI (W : Wd) (Wo : WX) (d : En → Rs (List D)) : TI := fun σ H R => ∃ Z F P e T, RS W Z F P e T σ H ∧ match d e with
  | .ok ds e' => ∀ Z' F' H' J T2, Stp Z F H Z' F' H' → RS W Z' F' P e' (T2 ++ T) σ H' → ItOk W J T2 ds → R J H'
  | .exc c ps e' => XOk W Wo Z F P T σ H c ps e'
  | .bad => False
def HI (X : Cx) (cl : Cl) (Wo : WX) (tg it : Expr) (d : En → Rs (List D)) : Prop := PI X tg it (rdI (Cx.wd X cl) Wo d)
theorem PI.imp {tg it : Expr} {t t' : TI} (h : PI X tg it t) (k : ∀ σ H R, t' σ H R → t σ H R) : PI X tg it t' := ⟨fun pins s σ H R I q => h.run pins s σ H R I (k σ H R q)⟩
def sForL (t : Tg) (b : En → Out) : List D → En → Out
  | [], e => .nx e
  | d :: ds, e => match t (.d d) e with
    | none => .bad
    | some e1 => match b e1 with
      | .nx e2 => sForL t b ds e2
      | .ct e2 => sForL t b ds e2
      | .bk e2 => .nx e2
      | r => r
def sFor (it : En → Rs (List D)) (t : Tg) (b : En → Out) : En → Out := fun e => (it e).out fun ds e1 => sForL t b ds e1
theorem hs_for {tg it : Expr} {body : List Stmt} {di} {ss : List Nat} {t : Tg} {db} (hp : PassesOwn (model X.prog X.w) X.A X.env X.xe) (hc : X.calm = true) (hi : HI X cl Wo tg it di) (hg : HG X cl tg ss t) (hb : HSs X cl Wo body db)
    (hs : ∀ x, foldedSetIterable it X.env x = pure x := by intro _; rfl) : HS X cl Wo (.For tg it body [] pos) (sFor di t db) :=
  PS.imp (ps_for hp hc hi hg hb hs) fun D σ H ⟨Z, F, P, e, T, r0, k⟩ => by
    refine ⟨Z, F, P, e, T, r0, ?_⟩
    unfold sFor at k
    cases q : di e with
    | bad => rw [q] at k; exact k
    | exc c ps e1 => rw [q] at k; exact k σ
    | ok ds e1 =>
      rw [q] at k
      simp only [Rs.out] at k
      intro Z1 F1 H1 J T2 s1 r1 hJ
      refine ⟨fun i m σ H => i + m = ds.length ∧ ∃ Z F e, RS (Cx.wd X cl) Z F P e (T2 ++ T) σ H ∧ PostS (Cx.wd X cl) Wo Z F P T H D (sForL t db (ds.drop i) e), ⟨ds.length, Nat.zero_add _, Z1, F1, e1, r1, PostS.step s1 k⟩, ?_⟩
      rintro i m σ H ⟨him, Z, F, e, r, k⟩
      obtain ⟨hgo, hstop⟩ := hJ i Z F P e T σ H r
      by_cases hi : i < ds.length
      · right
        have hd : ds[i]? = some ds[i] := List.getElem?_eq_getElem hi
        rw [List.drop_eq_getElem_cons hi] at k
        unfold sForL at k
        refine ⟨(hgo _ hd).1, fun σ' H' => i + 1 + (m - 1) = ds.length ∧ ∃ Z F e, RS (Cx.wd X cl) Z F P e (T2 ++ T) σ' H' ∧ PostS (Cx.wd X cl) Wo Z F P T H' D (sForL t db (ds.drop (i + 1)) e), fun σ' H' h => ⟨m - 1, by omega, h⟩, fun x H' hy => ?_⟩
        obtain ⟨Z2, F2, s2, r2⟩ := (hgo _ hd).2 x H' hy
        refine ⟨Z2, F2, P, e, T2 ++ T, .d ds[i], r2, ?_⟩
        cases q1 : t (.d ds[i]) e with
        | none => rw [q1] at k; exact k
        | some e2 =>
          rw [q1] at k
          simp only at k ⊢
          intro σ3 Z3 F3 H3 _ s3 r3
          refine ⟨Z3, F3, P, e2, T2 ++ T, r3, ?_⟩
          cases qb : db e2 with
          | nx e3 => rw [qb] at k; exact fun σ4 Z4 F4 H4 s4 r4 => ⟨by omega, Z4, F4, e3, r4, PostS.step ((s2.trans s3).trans s4) k⟩
          | ct e3 => rw [qb] at k; exact fun σ4 Z4 F4 H4 s4 r4 => ⟨by omega, Z4, F4, e3, r4, PostS.step ((s2.trans s3).trans s4) k⟩
          | bk e3 => rw [qb] at k; exact fun σ4 Z4 F4 H4 s4 r4 => k σ4 Z4 F4 H4 ((s2.trans s3).trans s4) r4.appPop
          | rt o e3 => rw [qb] at k; exact fun v σ4 Z4 F4 H4 s4 r4 => k v σ4 Z4 F4 H4 ((s2.trans s3).trans s4) ((r4.perm (T' := T2 ++ ((o, v) :: T)) List.perm_middle.symm).appPop)
          | exc c ps e3 => rw [qb] at k; exact fun σ4 => XOk.pops (XOk.step (s2.trans s3) (k σ4))
          | bad => rw [qb] at k; exact k
      · left
        have hge : ds.length ≤ i := Nat.le_of_not_lt hi
        rw [List.drop_of_length_le hge] at k
        exact ⟨hstop (by omega), k σ Z F H .refl r.appPop⟩
/-- over a list or tuple (a value made; what it owns is known from then on) -/
def iSeq (d : En → Rs O) : En → Rs (List D) := fun e => (d e).bind fun o e1 => match o with
  | .lst os => .ok (fzs os) e1
  | .d (.lst ds) => .ok ds e1
  | _ => .bad
def iTupl (d : En → Rs O) : En → Rs (List D) := fun e => (d e).bind fun o e1 => match o with
  | .d (.tup ds) => .ok ds e1
  | _ => .bad
theorem itl_ok {a : Addr} {v : V} {ds : List D} (hv : v = .ref a) : ItOk W (Itl W.K a) [(.d (.lst ds), v)] ds := by
  intro i Z F P e T σ H r
  have r' : RS W Z F P e ((.d (.lst ds), v) :: T) σ H := r
  obtain ⟨a', vs, ev, hh, rd⟩ := r'.topD
  rw [hv] at ev
  cases ev
  have hq : SqL W.K H a vs := .inl hh.2
  refine ⟨fun d hd => ?_, fun hle => ⟨vs, hq, by rw [← rd.len]; exact Nat.le_of_eq hle.symm⟩⟩
  obtain ⟨w, hw, rw'⟩ := rd.get hd
  exact ⟨⟨vs, w, hq, hw⟩, fun x H' ⟨eH, hx⟩ => by
    subst eH
    have := hx vs hq
    rw [hw] at this
    cases this
    exact ⟨Z, F, .refl, r.push rw'⟩⟩
theorem itt_ok {a : Addr} {v : V} {ds : List D} (hv : v = .ref a) : ItOk W (Itt W.K a) [(.d (.tup ds), v)] ds := by
  intro i Z F P e T σ H r
  have r' : RS W Z F P e ((.d (.tup ds), v) :: T) σ H := r
  obtain ⟨a', vs, ev, hh, rd⟩ := r'.topD
  rw [hv] at ev
  cases ev
  have hq : SqT W.K H a vs := hh.sq
  refine ⟨fun d hd => ?_, fun hle => ⟨vs, hq, by rw [← rd.len]; exact Nat.le_of_eq hle.symm⟩⟩
  obtain ⟨w, hw, rw'⟩ := rd.get hd
  exact ⟨⟨vs, w, hq, hw⟩, fun x H' ⟨eH, hx⟩ => by
    subst eH
    have := hx vs hq
    rw [hw] at this
    cases this
    exact ⟨Z, F, .refl, r.push rw'⟩⟩
theorem hi_list {tg it : Expr} {d} (h : HE X cl Wo it d) : HI X cl Wo tg it (iSeq d) :=
  PI.imp (pi_list h) fun σ H R ⟨Z, F, P, e, T, r0, k⟩ => by
    refine ⟨Z, F, P, e, T, r0, ?_⟩
    unfold iSeq at k
    cases q : d e with
    | bad => rw [q] at k; exact k
    | exc c ps e1 => rw [q] at k; exact k
    | ok o e1 =>
      rw [q] at k
      simp only [Rs.bind_ok] at k
      intro v Z1 F1 H1 s1 r1
      cases o with
      | lst os =>
        obtain ⟨Z2, F2, s2, r2⟩ := r1.freeze
        obtain ⟨a, vs, ev, hh, rd⟩ := r2.topD
        exact ⟨a, ev, ⟨vs, .inl hh.2⟩, k Z2 F2 H1 _ [(.d (.lst (fzs os)), v)] (s1.trans s2) r2 (itl_ok ev)⟩
      | d x =>
        cases x with
        | lst ds =>
          obtain ⟨a, vs, ev, hh, rd⟩ := r1.topD
          exact ⟨a, ev, ⟨vs, .inl hh.2⟩, k Z1 F1 H1 _ [(.d (.lst ds), v)] s1 r1 (itl_ok ev)⟩
        | _ => exact k.elim
      | _ => exact k.elim
theorem hi_tup {tg it : Expr} {d} (h : HE X cl Wo it d) : HI X cl Wo tg it (iTupl d) :=
  PI.imp (pi_tup h) fun σ H R ⟨Z, F, P, e, T, r0, k⟩ => by
    refine ⟨Z, F, P, e, T, r0, ?_⟩
    unfold iTupl at k
    cases q : d e with
    | bad => rw [q] at k; exact k
    | exc c ps e1 => rw [q] at k; exact k
    | ok o e1 =>
      rw [q] at k
      simp only [Rs.bind_ok] at k
      intro v Z1 F1 H1 s1 r1
      cases o with
      | d x =>
        cases x with
        | tup ds =>
          obtain ⟨a, vs, ev, hh, rd⟩ := r1.topD
          exact ⟨a, ev, ⟨vs, hh.sq⟩, k Z1 F1 H1 _ [(.d (.tup ds), v)] s1 r1 (itt_ok ev)⟩
        | _ => exact k.elim
      | _ => exact k.elim
end
end MX

/-! MX7: calls of own defs; a def by its body. -/
namespace MX
open PySem L2
/-- an argument: its value, and the slot that it was lent from -/
abbrev Ag := O × Option Nat
def tmC (as : List Ag) (vs : List V) : Ts := (as.map (·.1)).zip vs
def lends (σ : L2.St) : List Ag → List V → Prop
  | (_, some i) :: as, v :: vs => σ[i]? = some (some v) ∧ lends σ as vs
  | (_, none) :: as, _ :: vs => lends σ as vs
  | _, _ => True
def PostC (W : Wd) (Wo : WX) (Z F : Addr → Prop) (P : Nat → V) (T : Ts) (σ : L2.St) (H : Hp) (Q : List V → Hp → Prop) : Rs (List Ag) → Prop
  | .ok as e => ∀ vs Z' F' H', as.length = vs.length → Stp Z F H Z' F' H' → RS W Z' F' P e (tmC as vs ++ T) σ H' → lends σ as vs → Q vs H'
  | .exc c ps e => XOk W Wo Z F P T σ H c ps e
  | .bad => False
def rdC (W : Wd) (Wo : WX) (d : En → Rs (List Ag)) : TA := fun σ H Q => ∃ Z F P e T, RS W Z F P e T σ H ∧ PostC W Wo Z F P T σ H Q (d e)
def LenIs {α : Type} (n : Nat) (d : En → Rs (List α)) : Prop := ∀ e as e', d e = .ok as e' → as.length = n
structure HC (X : Cx) (cl : Cl) (Wo : WX) (es : List Expr) (n : Nat) (d : En → Rs (List Ag)) : Prop where
  run : PA X es (rdC (Cx.wd X cl) Wo d)
  len : LenIs n d
structure HCK (X : Cx) (cl : Cl) (Wo : WX) (kws : List Keyword) (n : Nat) (d : En → Rs (List Ag)) : Prop where
  run : PK X kws (rdC (Cx.wd X cl) Wo d)
  len : LenIs n d
def lentS (e : En) (i : Nat) : En := modS Sl.lent e i
/-- an argument that is a slot: what it owns is lent -/
def gName (i : Nat) : En → Rs Ag := fun e => match slot e i with
  | some (.d x) => .ok (.d x, none) e
  | some o => .ok (o, some i) (lentS e i)
  | none => .bad
/-- an argument that is made -/
def gVal (d : En → Rs O) : En → Rs Ag := fun e => (d e).bind fun o e1 => .ok (o, none) e1
def cNil : En → Rs (List Ag) := fun e => .ok [] e
def cCons (g : En → Rs Ag) (r : En → Rs (List Ag)) : En → Rs (List Ag) := fun e => (g e).bind fun a e1 => (r e1).bind fun as e2 => .ok (a :: as) e2
section
variable {X : Cx} {cl : Cl} {Wo : WX} {pos : Pos}
variable {W : Wd} {Z F Z' F' : Addr → Prop} {P P' : Nat → V} {e : En} {T : Ts} {σ : L2.St} {H H' : Hp} {Q : VK}
theorem PA.cons' {a : Expr} {es : List Expr} {ta : TE} {t : TA} (h : PA X (a :: es) (tCons ta t)) : PA X (a :: es) (tCons ta t) := h
def PostG (W : Wd) (Wo : WX) (Z F : Addr → Prop) (P : Nat → V) (T : Ts) (σ : L2.St) (H : Hp) (Q : VK) : Rs Ag → Prop
  | .ok a e => ∀ v Z' F' H', Stp Z F H Z' F' H' → RS W Z' F' P e ((a.1, v) :: T) σ H' → lends σ [a] [v] → Q v H'
  | .exc c ps e => XOk W Wo Z F P T σ H c ps e
  | .bad => False
def rdGa (W : Wd) (Wo : WX) (d : En → Rs Ag) : TE := fun σ H Q => ∃ Z F P e T, RS W Z F P e T σ H ∧ PostG W Wo Z F P T σ H Q (d e)
def HGa (X : Cx) (cl : Cl) (Wo : WX) (ex : Expr) (g : En → Rs Ag) : Prop := PE X ex (rdGa (Cx.wd X cl) Wo g)
theorem ga_name {i : Nat} {x : Str} (h : PE X (.Name x pos) (tVar i)) : HGa X cl Wo (.Name x pos) (gName i) :=
  PE.imp h fun σ H Q ⟨Z, F, P, e, T, r, k⟩ => by
    unfold gName at k
    cases q : slot e i with
    | none => rw [q] at k; exact k.elim
    | some o =>
      rw [q] at k
      obtain ⟨s, hs, hc⟩ := slot_some q
      have lend : ∃ v, σ[i]? = some (some v) ∧ RS (Cx.wd X cl) Z F P (lentS e i) ((o, v) :: T) σ H := by
        obtain ⟨v, hv, r1⟩ := r.lend hs hc
        exact ⟨v, hv, by unfold lentS; rw [modS_eq hs]; exact r1⟩
      cases o with
      | d x =>
        obtain ⟨v, f, hv, hr, _⟩ := slot_get r q
        exact ⟨v, hv, k v Z F H .refl (r.push hr.1) trivial⟩
      | _ =>
        obtain ⟨v, hv, r1⟩ := lend
        exact ⟨v, hv, k v Z F H .refl r1 ⟨hv, trivial⟩⟩
theorem ga_val {ex : Expr} {d} (h : HE X cl Wo ex d) : HGa X cl Wo ex (gVal d) :=
  PE.imp h fun σ H Q ⟨Z, F, P, e, T, r, k⟩ => by
    refine ⟨Z, F, P, e, T, r, ?_⟩
    unfold gVal at k
    cases q : d e with
    | bad => rw [q] at k; exact k
    | exc c ps e1 => rw [q] at k; exact k
    | ok o e1 => rw [q] at k; exact fun v Z1 F1 H1 s1 r1 => k v Z1 F1 H1 s1 r1 trivial
theorem lends_cons {a : Ag} {as : List Ag} {v : V} {vs : List V} (h : lends σ [a] [v]) (h' : lends σ as vs) : lends σ (a :: as) (v :: vs) := by
  obtain ⟨o, i⟩ := a
  cases i with
  | none => exact h'
  | some i => exact ⟨h.1, h'⟩
theorem rdC_nil {Q : List V → Hp → Prop} (h : rdC W Wo cNil σ H Q) : Q [] H := by
  obtain ⟨Z, F, P, e, T, r, k⟩ := h
  exact k [] Z F H rfl .refl r trivial
theorem rdC_cons {g : En → Rs Ag} {r : En → Rs (List Ag)} {Q : List V → Hp → Prop} (h : rdC W Wo (cCons g r) σ H Q) : rdGa W Wo g σ H fun x H1 => rdC W Wo r σ H1 fun xs H2 => Q (x :: xs) H2 := by
  obtain ⟨Z, F, P, e, T, r0, k⟩ := h
  refine ⟨Z, F, P, e, T, r0, ?_⟩
  unfold cCons at k
  cases qa : g e with
  | bad => rw [qa] at k; exact k
  | exc c ps e1 => rw [qa] at k; exact k
  | ok a e1 =>
    rw [qa] at k
    simp only [Rs.bind_ok] at k
    intro v Z1 F1 H1 s1 r1 l1
    refine ⟨Z1, F1, P, e1, (a.1, v) :: T, r1, ?_⟩
    cases qb : r e1 with
    | bad => rw [qb] at k; exact k
    | exc c ps e' => rw [qb] at k; exact XOk.popped (XOk.step s1 k)
    | ok as e2 =>
      rw [qb] at k
      simp only [Rs.bind_ok] at k
      intro vs Z2 F2 H2 hl s2 r2 l2
      exact k (v :: vs) Z2 F2 H2 (by rw [List.length_cons, List.length_cons, hl]) (s1.trans s2) (r2.perm List.perm_middle) (lends_cons l1 l2)
theorem len_nil : LenIs 0 cNil := fun e as e' h => by cases h; rfl
theorem len_cons {g : En → Rs Ag} {r : En → Rs (List Ag)} {n : Nat} (h : LenIs n r) : LenIs (n + 1) (cCons g r) := fun e as e' q => by
  unfold cCons at q
  cases qa : g e with
  | bad => rw [qa] at q; cases q
  | exc c ps e1 => rw [qa] at q; cases q
  | ok a e1 =>
    rw [qa] at q
    simp only [Rs.bind_ok] at q
    cases qb : r e1 with
    | bad => rw [qb] at q; cases q
    | exc c ps e1 => rw [qb] at q; cases q
    | ok bs e2 =>
      rw [qb] at q
      cases q
      rw [List.length_cons, h e1 bs _ qb]
theorem hc_nil : HC X cl Wo [] 0 cNil := ⟨PA.imp pa_nil fun σ H Q h => rdC_nil h, len_nil⟩
theorem hc_cons {a : Expr} {es : List Expr} {n : Nat} {g r} (ha : HGa X cl Wo a g) (hr : HC X cl Wo es n r) (hs : starEach (a :: es) X.env = (false, eval a X.env) :: starEach es X.env := by rfl) : HC X cl Wo (a :: es) (n + 1) (cCons g r) :=
  ⟨PA.imp (pa_cons ha hr.run hs) fun σ H Q h => rdC_cons h, len_cons hr.len⟩
theorem PK.imp {kws : List Keyword} {t t' : TA} (h : PK X kws t) (k : ∀ σ H Q, t' σ H Q → t σ H Q) : PK X kws t' := ⟨fun pos pins s σ H Q I q => h.run pos pins s σ H Q I (k σ H Q q)⟩
theorem hck_nil : HCK X cl Wo [] 0 cNil := ⟨PK.imp pk_nil fun σ H Q h => rdC_nil h, len_nil⟩
theorem hck_cons {a : Expr} {kws : List Keyword} {nm : Option Str} {kpos : Pos} {n : Nat} {g r} (ha : HGa X cl Wo a g) (hr : HCK X cl Wo kws n r) : HCK X cl Wo (⟨nm, a, kpos⟩ :: kws) (n + 1) (cCons g r) :=
  ⟨PK.imp (pk_cons ha hr.run) fun σ H Q h => rdC_cons h, len_cons hr.len⟩
/-- positional, then keywords -/
def cApp (a b : En → Rs (List Ag)) : En → Rs (List Ag) := fun e => (a e).bind fun as e1 => (b e1).bind fun bs e2 => .ok (as ++ bs) e2
theorem lends_app : ∀ {as bs : List Ag} {vs us : List V}, as.length = vs.length → lends σ as vs → lends σ bs us → lends σ (as ++ bs) (vs ++ us)
  | [], bs, [], us, _, _, h => h
  | [], _, _ :: _, _, hl, _, _ => by cases hl
  | _ :: _, _, [], _, hl, _, _ => by cases hl
  | (o, none) :: as, bs, v :: vs, us, hl, h, h' => lends_app (as := as) (Nat.succ.inj hl) h h'
  | (o, some i) :: as, bs, v :: vs, us, hl, h, h' => ⟨h.1, lends_app (as := as) (Nat.succ.inj hl) h.2 h'⟩
theorem tmC_app {as bs : List Ag} {vs us : List V} (h : as.length = vs.length) : tmC (as ++ bs) (vs ++ us) = tmC as vs ++ tmC bs us := by
  unfold tmC
  rw [List.map_append, List.zip_append (by rw [List.length_map, h])]
theorem rdC_app {a b : En → Rs (List Ag)} {Q : List V → Hp → Prop} (h : rdC W Wo (cApp a b) σ H Q) : rdC W Wo a σ H fun vs H1 => rdC W Wo b σ H1 fun us H2 => Q (vs ++ us) H2 := by
  obtain ⟨Z, F, P, e, T, r0, k⟩ := h
  refine ⟨Z, F, P, e, T, r0, ?_⟩
  unfold cApp at k
  cases qa : a e with
  | bad => rw [qa] at k; exact k
  | exc c ps e1 => rw [qa] at k; exact k
  | ok as e1 =>
    rw [qa] at k
    simp only [Rs.bind_ok] at k
    intro vs Z1 F1 H1 hl1 s1 r1 l1
    refine ⟨Z1, F1, P, e1, tmC as vs ++ T, r1, ?_⟩
    cases qb : b e1 with
    | bad => rw [qb] at k; exact k
    | exc c ps e' => rw [qb] at k; exact XOk.pops (XOk.step s1 k)
    | ok bs e2 =>
      rw [qb] at k
      simp only [Rs.bind_ok] at k
      intro us Z2 F2 H2 hl s2 r2 l2
      refine k (vs ++ us) Z2 F2 H2 (by rw [List.length_append, List.length_append, hl1, hl]) (s1.trans s2) (r2.perm ?_) (lends_app hl1 l1 l2)
      rw [tmC_app hl1, ← List.append_assoc]
      exact List.Perm.append_right _ List.perm_append_comm
theorem len_app {a b : En → Rs (List Ag)} {n m : Nat} (h : LenIs n a) (h' : LenIs m b) : LenIs (n + m) (cApp a b) := fun e as e' q => by
  unfold cApp at q
  cases qa : a e with
  | bad => rw [qa] at q; cases q
  | exc c ps e1 => rw [qa] at q; cases q
  | ok xs e1 =>
    rw [qa] at q
    simp only [Rs.bind_ok] at q
    cases qb : b e1 with
    | bad => rw [qb] at q; cases q
    | exc c ps e1 => rw [qb] at q; cases q
    | ok bs e2 =>
      rw [qb] at q
      cases q
      rw [List.length_append, h e xs e1 qa, h' e1 bs _ qb]
/-! ### the parameters' order -/
def ord {α : Type} (p : List Nat) (l : List α) : List α := p.filterMap fun i => l[i]?
theorem ord_range {α : Type} (l : List α) : ord (List.range l.length) l = l := by
  unfold ord
  induction l with
  | nil => rfl
  | cons x l ih =>
    rw [List.length_cons, List.range_succ_eq_map, List.filterMap_cons]
    simp only [List.getElem?_cons_zero, List.filterMap_map]
    congr 1
theorem ord_perm {α : Type} {p : List Nat} {l : List α} (h : p.Perm (List.range l.length)) : (ord p l).Perm l := by
  have := h.filterMap (fun i => l[i]?)
  rw [show (List.range l.length).filterMap (fun i => l[i]?) = l from ord_range l] at this
  exact this
theorem ord_map {α β : Type} (f : α → β) (p : List Nat) (l : List α) : ord p (l.map f) = (ord p l).map f := by
  unfold ord
  rw [List.map_filterMap]
  congr 1
  funext i
  rw [List.getElem?_map]
theorem ord_len {α β : Type} {p : List Nat} {l : List α} {k : List β} (h : l.length = k.length) : (ord p l).length = (ord p k).length := by
  unfold ord
  induction p with
  | nil => rfl
  | cons i p ih =>
    rw [List.filterMap_cons, List.filterMap_cons]
    rcases Nat.lt_or_ge i l.length with q | q
    · rw [List.getElem?_eq_getElem q, List.getElem?_eq_getElem (by omega)]
      simp only [List.length_cons, ih]
    · rw [List.getElem?_eq_none q, List.getElem?_eq_none (by omega)]
      exact ih
theorem ord_zip {α β : Type} {p : List Nat} : ∀ {l : List α} {k : List β}, l.length = k.length → ord p (l.zip k) = (ord p l).zip (ord p k) := by
  intro l k h
  unfold ord
  induction p with
  | nil => rfl
  | cons i p ih =>
    rw [List.filterMap_cons, List.filterMap_cons, List.filterMap_cons]
    rcases Nat.lt_or_ge i l.length with q | q
    · have q2 : i < k.length := by omega
      have q3 : i < (l.zip k).length := by rw [List.length_zip]; omega
      rw [List.getElem?_eq_getElem q, List.getElem?_eq_getElem q2, List.getElem?_eq_getElem q3]
      simp only [List.getElem_zip, List.zip_cons_cons, ih]
    · have q2 : k.length ≤ i := by omega
      have q3 : (l.zip k).length ≤ i := by rw [List.length_zip]; omega
      rw [List.getElem?_eq_none q, List.getElem?_eq_none q2, List.getElem?_eq_none q3]
      exact ih
theorem lends_get : ∀ {as : List Ag} {vs : List V}, as.length = vs.length → (lends σ as vs ↔ ∀ (j : Nat) o i v, as[j]? = some (o, some i) → vs[j]? = some v → σ[i]? = some (some v))
  | [], [], _ => ⟨fun _ j o i v h => by simp at h, fun _ => trivial⟩
  | [], _ :: _, h => by cases h
  | _ :: _, [], h => by cases h
  | (o, none) :: as, v :: vs, h => by
    refine ⟨fun hl j o i w h1 h2 => ?_, fun hl => (lends_get (as := as) (Nat.succ.inj h)).mpr fun j o i w h1 h2 => hl (j + 1) o i w h1 h2⟩
    cases j with
    | zero => cases h1
    | succ j => exact (lends_get (as := as) (Nat.succ.inj h)).mp hl j o i w h1 h2
  | (o, some i) :: as, v :: vs, h => by
    refine ⟨fun hl j o' i' w h1 h2 => ?_, fun hl => ⟨hl 0 o i v rfl rfl, (lends_get (as := as) (Nat.succ.inj h)).mpr fun j o i w h1 h2 => hl (j + 1) o i w h1 h2⟩⟩
    cases j with
    | zero => cases h1; cases h2; exact hl.1
    | succ j => exact (lends_get (as := as) (Nat.succ.inj h)).mp hl.2 j o' i' w h1 h2
theorem lends_ord {p : List Nat} {as : List Ag} {vs : List V} (hl : as.length = vs.length) (h : lends σ as vs) : lends σ (ord p as) (ord p vs) := by
  rw [lends_get hl] at h
  rw [lends_get (ord_len hl)]
  intro j o i v h1 h2
  have : (ord p (as.zip vs))[j]? = some ((o, some i), v) := by
    rw [ord_zip hl, List.getElem?_zip_eq_some]
    exact ⟨h1, h2⟩
  have hm : ((o, some i), v) ∈ ord p (as.zip vs) := List.mem_of_getElem? this
  unfold ord at hm
  obtain ⟨q, hq, e⟩ := List.mem_filterMap.mp hm
  rw [List.getElem?_zip_eq_some] at e
  exact h q o i v e.1 e.2
/-! ### behind a call -/
/-- what a def leaves of its parameters -/
def livs : List (Option O) → List V → Ts
  | some o :: ps, v :: vs => (o, v) :: livs ps vs
  | none :: ps, _ :: vs => livs ps vs
  | _, _ => []
/-- the lent trees go back to their slots -/
def wb : En → List Ag → List (Option O) → Option En
  | e, (_, some i) :: as, some o :: ps => match e[i]? with
    | some s => match s.cont with
      | none => wb (putS e i o) as ps
      | some _ => none
    | none => none
  | e, _ :: as, _ :: ps => wb e as ps
  | e, _, _ => some e
theorem RS.wb : ∀ {as : List Ag} {ps : List (Option O)} {vs : List V} {e e' : En} {T : Ts}, as.length = vs.length → RS W Z F P e (livs ps vs ++ T) σ H → lends σ as vs → wb e as ps = some e' → RS W Z F P e' T σ H
  | [], ps, vs, e, e', T, hl, r, _, h => by
    have : e = e' := by
      cases ps with
      | nil => exact Option.some.inj h
      | cons p ps => exact Option.some.inj h
    subst this
    exact r.appPop
  | _ :: _, _, [], _, _, _, hl, _, _, _ => by cases hl
  | a :: as, [], v :: vs, e, e', T, hl, r, _, h => by
    have : e = e' := by
      obtain ⟨o, i⟩ := a
      cases i <;> exact Option.some.inj h
    subst this
    exact r.appPop
  | (o, none) :: as, none :: ps, v :: vs, e, e', T, hl, r, l, h => RS.wb (as := as) (ps := ps) (Nat.succ.inj hl) r l h
  | (o, none) :: as, some p :: ps, v :: vs, e, e', T, hl, r, l, h => RS.wb (as := as) (ps := ps) (Nat.succ.inj hl) (RS.pop r) l h
  | (o, some i) :: as, none :: ps, v :: vs, e, e', T, hl, r, l, h => RS.wb (as := as) (ps := ps) (Nat.succ.inj hl) r l.2 h
  | (o, some i) :: as, some p :: ps, v :: vs, e, e', T, hl, r, l, h => by
    unfold MX.wb at h
    cases q : e[i]? with
    | none => rw [q] at h; cases h
    | some s =>
      rw [q] at h
      simp only at h
      cases q2 : s.cont with
      | some _ => rw [q2] at h; cases h
      | none =>
        rw [q2] at h
        simp only at h
        have r1 : RS W Z F P e ((p, v) :: (livs ps vs ++ T)) σ H := r
        have r2 := r1.back q q2 l.1
        refine RS.wb (as := as) (ps := ps) (Nat.succ.inj hl) ?_ l.2 h
        unfold putS
        rw [modS_eq q]
        exact r2
/-- the callee's part of the state, and how the whole comes back -/
theorem RS.frame {C : Ts} (r : RS W Z F P e (C ++ T) σ H) (P0 : Nat → V) : ∃ Fc, RS W.un Z Fc P0 [] C [] H ∧
    ∀ Z' F' H' C' P1, Stp Z Fc H Z' F' H' → RS W.un Z' F' P1 [] C' [] H' → ∃ F2, Stp Z F H Z' F2 H' ∧ RS W Z' F2 P e (C' ++ T) σ H' := by
  obtain ⟨⟨fe, ft, h1, h2, nd, hF⟩, sep, zin, fin, pin, px⟩ := r
  rw [List.map_append, List.map_append] at h2
  obtain ⟨vs', us, fa, fT, ew, ef, a1, a2⟩ := h2.split
  have hl2 : vs'.length = (C.map (·.2)).length := by rw [← a1.len, List.length_map, List.length_map]
  have e1 := List.append_inj ew hl2.symm
  obtain ⟨rfl, rfl⟩ : vs' = C.map (·.2) ∧ us = T.map (·.2) := ⟨e1.1.symm, e1.2.symm⟩
  subst ef
  have fa_F : ∀ a ∈ fa, F a := fun a ha => hF a (List.mem_append_right _ (List.mem_append_left _ ha))
  have fe_F : ∀ a ∈ fe, F a := fun a ha => hF a (List.mem_append_left _ ha)
  have fT_F : ∀ a ∈ fT, F a := fun a ha => hF a (List.mem_append_right _ (List.mem_append_right _ ha))
  have nd1 := List.nodup_append.mp nd
  have nd2 := List.nodup_append.mp nd1.2.1
  have fe_fa : ∀ a ∈ fe, a ∉ fa := fun a ha hb => nd1.2.2 a ha a (List.mem_append_left _ hb) rfl
  have fe_fT : ∀ a ∈ fe, a ∉ fT := fun a ha hb => nd1.2.2 a ha a (List.mem_append_right _ hb) rfl
  have fT_fa : ∀ a ∈ fT, a ∉ fa := fun a ha hb => nd2.2.2 a hb a ha rfl
  refine ⟨fun a => a ∈ fa, ⟨⟨[], fa, ⟨rfl, rfl⟩, ROs.wx (W := W) (W' := W.un) ⟨rfl, rfl⟩ _ _ _ a1, nd2.1, fun a ha => ha⟩, fun a ha => sep a (fa_F a ha), zin, fun a ha => fin a (fa_F a ha), fun i s h => by simp at h, fun i a h => by cases h⟩, ?_⟩
  intro Z' F' H' C' P1 s r'
  obtain ⟨⟨fe', f', ⟨_, efe⟩, h2'', nd', hF'⟩, sep', zin', fin', _⟩ := r'
  have h2' : ROs W H' Z' (C'.map (·.1)) (C'.map (·.2)) f' := ROs.wx (W := W.un) (W' := W) ⟨rfl, rfl⟩ _ _ _ h2''
  subst efe
  have hin : ∀ a, F a → H a ≠ none := fun a ha q => notMut_none q (fin a ha)
  have out : ∀ a, F a → a ∉ fa → ¬ F' a := fun a ha hb hc => (s.f' a hc).elim hb (hin a ha)
  have keepF : ∀ a, F a → a ∉ fa → ∀ u, H a = some u → H' a = some u := fun a _ hb u hu => s.keep a u hu hb
  have kp : Kp H Z H' Z' := ⟨s.z, fun a o z h => s.keep a o h fun hf => sep a (fa_F a hf) z, fun a xs h => s.keep a _ h fun hf => notMut_tup h (fin a (fa_F a hf)), fun a o u h => s.keep a _ h fun hf => notMut_frz h (fin a (fa_F a hf))⟩
  refine ⟨fun a => F' a ∨ a ∈ fe ∨ a ∈ fT, ⟨s.z, fun a o h nf => s.keep a o h fun hf => nf (fa_F a hf), s.dom, fun a h => ?_, fun a h => ?_⟩, ⟨⟨fe, f' ++ fT, h1.keep kp _ _ _ fun a ha => keepF a (fe_F a ha) (fe_fa a ha), ?_, ?_, fun a ha => ?_⟩, fun a h z => ?_, zin', fun a h => ?_, pin, px⟩⟩
  · rcases h with h | h | h
    · exact (s.f' a h).imp (fa_F a) id
    · exact .inl (fe_F a h)
    · exact .inl (fT_F a h)
  · rcases s.z' a h with q | q | q
    · exact .inl q
    · exact .inr (.inl (fa_F a q))
    · exact .inr (.inr q)
  · rw [List.map_append, List.map_append]
    exact ROs.append h2' (a2.keep kp _ _ _ fun a ha => keepF a (fT_F a ha) (fT_fa a ha))
  · rw [List.nodup_append]
    refine ⟨nd1.1, ?_, fun a ha b hb => ?_⟩
    · rw [List.nodup_append]
      exact ⟨nd', nd2.2.1, fun a ha b hb e => out b (fT_F b hb) (fT_fa b hb) (by rw [← e]; exact hF' a ha)⟩
    · intro e
      rcases List.mem_append.mp hb with q | q
      · exact out a (fe_F a ha) (fe_fa a ha) (by rw [e]; exact hF' b q)
      · exact fe_fT a ha (by rw [e]; exact q)
  · rcases List.mem_append.mp ha with q | q
    · exact .inr (.inl q)
    · rcases List.mem_append.mp q with q | q
      · exact .inl (hF' a q)
      · exact .inr (.inr q)
  · rcases h with h | h | h
    · exact sep' a h z
    · rcases s.z' a z with q | q | q
      · exact sep a (fe_F a h) q
      · exact fe_fa a h q
      · exact hin a (fe_F a h) q
    · rcases s.z' a z with q | q | q
      · exact sep a (fT_F a h) q
      · exact fT_fa a h q
      · exact hin a (fT_F a h) q
  · rcases h with h | h | h
    · exact fin' a h
    · have m := fin a (fe_F a h)
      cases q : H a with
      | none => rw [q] at m; exact m.elim
      | some u => rw [keepF a (fe_F a h) (fe_fa a h) u q, ← q]; exact m
    · have m := fin a (fT_F a h)
      cases q : H a with
      | none => rw [q] at m; exact m.elim
      | some u => rw [keepF a (fT_F a h) (fT_fa a h) u q, ← q]; exact m
end
end MX

/-! MX8: a def's promise by its denotation; the call rules. -/
namespace MX
open PySem L2
open PyProof.Rows (envOfC)
/-- a def's promise -/
def spD (W : Wd) (n : Nat) (den : Den) : Sp := fun vs H Q E => ∃ Z F P os, RS W Z F P [] (os.zip vs) [] H ∧ os.length = vs.length ∧ vs.length = n ∧ match den os with
  | .ok o ps => ∀ v Z' F' H' P', Stp Z F H Z' F' H' → RS W Z' F' P' [] ((o, v) :: livs ps vs) [] H' → Q v H'
  | .exc c pl ps => ∀ Z' F' H' P' C dd, W.cl c = some C → Pay W H' Z' pl dd → Stp Z F H Z' F' H' → RS W Z' F' P' [] (livs ps vs) [] H' → E (.ref C) dd H'
  | .bad => False
theorem spD_len {W : Wd} {n : Nat} {den : Den} {ps : List Str} (hn : n = ps.length) : ∀ vs H Q E, spD W n den vs H Q E → vs.length = ps.length := fun vs H Q E ⟨Z, F, P, os, r, hl, hn', _⟩ => by rw [hn', hn]
/-- the slots at a def's start: pinned parameters, parameters, locals -/
def initE : List Bool → List O → Nat → En
  | true :: m, o :: os, n => .p o :: initE m os (n - 1)
  | _ :: m, o :: os, n => .v o :: initE m os (n - 1)
  | _, _, n => List.replicate n .no
def outE : Nat → En → List (Option O)
  | 0, _ => []
  | n + 1, [] => none :: outE n []
  | n + 1, .p o :: e => some o :: outE n e
  | n + 1, _ :: e => none :: outE n e
def denFn (mask : List Bool) (n : Nat) (b : En → Out) : Den := fun os => match b (initE mask os n) with
  | .rt o e => .ok o (outE mask.length e)
  | .nx e => .ok (.d .non) (outE mask.length e)
  | .exc c pl e => .exc c pl (outE mask.length e)
  | _ => .bad
section
variable {W : Wd} {Z F : Addr → Prop} {P : Nat → V} {e : En} {T : Ts} {σ : L2.St} {H : Hp}
theorem init_env : ∀ {mask : List Bool} {os : List O} {vs : List V} {n : Nat} {f : List Addr}, mask.length = os.length → os.length ≤ n → ROs W H Z os vs f → REnv W H Z ((initE mask os n).map Sl.cont) (vs.map some ++ List.replicate (n - vs.length) none) f
  | [], [], vs, n, f, _, _, ⟨e, ef⟩ => by
    subst e ef
    have : ∀ k, REnv W H Z ((List.replicate k Sl.no).map Sl.cont) (List.replicate k (none : Option V)) [] := by
      intro k
      induction k with
      | zero => exact ⟨rfl, rfl⟩
      | succ k ih => exact ⟨none, _, rfl, ih⟩
    exact this n
  | [], _ :: _, _, _, _, h, _, _ => by cases h
  | _ :: _, [], _, _, _, h, _, _ => by cases h
  | b :: mask, o :: os, vs, 0, f, _, h, _ => absurd h (Nat.not_succ_le_zero _)
  | b :: mask, o :: os, vs, n + 1, f, hm, hn, ⟨v, r, f1, f2, ev, ef, h1, h2⟩ => by
    subst ev ef
    have ih := init_env (mask := mask) (n := n) (Nat.succ.inj hm) (Nat.le_of_succ_le_succ hn) h2
    have e2 : n + 1 - (v :: r).length = n - r.length := by rw [List.length_cons]; omega
    rw [e2]
    cases b with
    | true => exact ⟨v, _, f1, f2, rfl, rfl, h1, ih⟩
    | false => exact ⟨v, _, f1, f2, rfl, rfl, h1, ih⟩
theorem init_pin : ∀ {mask : List Bool} {os : List O} {vs : List V} {n : Nat}, mask.length = os.length → os.length = vs.length → ∀ (i : Nat) (s : Sl), (initE mask os n)[i]? = some s → s.pinned = true → ∃ v, vs[i]? = some v
  | [], [], [], n, _, _, i, s, h, hp => by
    have : s = .no := by
      rw [show initE [] [] n = List.replicate n .no from rfl, List.getElem?_replicate] at h
      split at h
      · exact (Option.some.inj h).symm
      · cases h
    subst this; cases hp
  | b :: mask, o :: os, v :: vs, n, _, _, 0, s, _, _ => ⟨v, rfl⟩
  | b :: mask, o :: os, v :: vs, n, h1, h2, i + 1, s, h, hp => by
    have h' : (initE mask os (n - 1))[i]? = some s := by cases b <;> exact h
    exact init_pin (mask := mask) (Nat.succ.inj h1) (Nat.succ.inj h2) i s h' hp
  | [], _ :: _, _, _, h, _, _, _, _, _ => by cases h
  | _ :: _, [], _, _, h, _, _, _, _, _ => by cases h
  | [], [], _ :: _, _, _, h, _, _, _, _ => by cases h
  | _ :: _, _ :: _, [], _, _, h, _, _, _, _ => by cases h
/-- the pinned parameters' trees at the end -/
theorem outs : ∀ {n : Nat} {e : En} {σ : L2.St} {vs : List V} {f : List Addr}, REnv W H Z (e.map Sl.cont) σ f → (∀ (i : Nat) (s : Sl) v, e[i]? = some s → s.pinned = true → vs[i]? = some v → σ[i]? = some (some v)) →
    ∃ g, ROs W H Z ((livs (outE n e) vs).map (·.1)) ((livs (outE n e) vs).map (·.2)) g ∧ g.Sublist f
  | 0, e, σ, vs, f, _, _ => ⟨[], ⟨rfl, rfl⟩, List.nil_sublist _⟩
  | n + 1, [], σ, [], f, _, _ => ⟨[], ⟨rfl, rfl⟩, List.nil_sublist _⟩
  | n + 1, [], σ, v :: vs, f, h, hp => outs (n := n) (e := []) (σ := σ) (vs := vs) h fun i s w h1 => by simp at h1
  | n + 1, s :: e, σ, [], f, _, _ => ⟨[], by cases s <;> exact ⟨rfl, rfl⟩, List.nil_sublist _⟩
  | n + 1, .p o :: e, σ, v :: vs, f, ⟨w, r, f1, f2, es, ef, h1, h2⟩, hp => by
    subst es ef
    have : w = v := Option.some.inj (Option.some.inj (hp 0 (.p o) v rfl rfl rfl))
    subst this
    obtain ⟨g, hg, sg⟩ := outs (n := n) (vs := vs) h2 fun i s u h1 h2 h3 => hp (i + 1) s u h1 h2 h3
    exact ⟨f1 ++ g, ⟨w, _, f1, g, rfl, rfl, h1, hg⟩, List.Sublist.append_left sg f1⟩
  | n + 1, .v o :: e, σ, v :: vs, f, ⟨w, r, f1, f2, es, ef, h1, h2⟩, hp => by
    subst es ef
    obtain ⟨g, hg, sg⟩ := outs (n := n) (vs := vs) h2 fun i s u h1 h2 h3 => hp (i + 1) s u h1 h2 h3
    exact ⟨g, hg, sg.trans (List.sublist_append_right _ _)⟩
  | n + 1, .no :: e, σ, v :: vs, f, ⟨w, r, es, h2⟩, hp => by
    subst es
    exact outs (n := n) (vs := vs) h2 fun i s u h1 h2 h3 => hp (i + 1) s u h1 h2 h3
  | n + 1, .pn :: e, σ, v :: vs, f, ⟨w, r, es, h2⟩, hp => by
    subst es
    exact outs (n := n) (vs := vs) h2 fun i s u h1 h2 h3 => hp (i + 1) s u h1 h2 h3
theorem RS.outs {vs : List V} {n : Nat} (r : RS W Z F P e T σ H) (hp : ∀ (i : Nat) v, vs[i]? = some v → P i = v) : RS W Z F P [] (T ++ livs (outE n e) vs) [] H := by
  obtain ⟨⟨fe, ft, h1, h2, nd, hF⟩, sep, zin, fin, pin, px⟩ := r
  obtain ⟨g, hg, sg⟩ := MX.outs (n := n) (vs := vs) h1 fun i s v h1 h2 h3 => by rw [← hp i v h3]; exact pin i s h1 h2
  have nd' : (ft ++ fe).Nodup := (List.perm_append_comm).nodup nd
  refine ⟨⟨[], ft ++ g, ⟨rfl, rfl⟩, by rw [List.map_append, List.map_append]; exact ROs.append h2 hg, nd'.sublist (List.Sublist.append_left sg ft), fun a ha => hF a ?_⟩, sep, zin, fin, fun i s h => by simp at h, px⟩
  rw [List.nil_append] at ha
  rcases List.mem_append.mp ha with q | q
  · exact List.mem_append_right _ q
  · exact List.mem_append_left _ (sg.subset q)
end
/-- THE RULE: a def by its body -/
theorem fn_ok {Pg : Program} {w : World} {K : PySem.W.Frag} {mg : Str → Option Value} {base : Heap} {cl : Cl} {x qual : Str} {st : Stmt} {f : Addr} {fd : FuncData} {N ps : List Str} {k : Nat} {mask : List Bool} {db : En → Out}
    (hex : cl.ex = none) (Fn : Fun K x qual st f fd) (S : FnScope N ps (defScope st)) (hm : mask.length = ps.length) (hN : ps.length ≤ N.length)
    (hb : ∀ (cdv : Value) (A : Around) (outer : List Env) (s : Shared) (H : Hp) (E : XK), Room k (A.deeper (envOfC qual (defScope st) s.heap.objs.size f cdv)) →
      HSs (cxOf (L2.CX Pg w) Pg w K mg base N qual (defScope st) f cdv A outer s H E) cl (fun c d _ H => E c d H) (defBody st) db) :
    FnOk Pg w K mg base (L2.CX Pg w) (k + 1) f fd ps (spD ⟨K, cl.f, none⟩ ps.length (denFn mask N.length db)) := by
  obtain ⟨cf, ce⟩ := cl
  cases (show ce = none from hex)
  refine Fn.okX S (spD_len rfl) (fun cdv A outer s H vs Q E hr h => ?_)
  refine ⟨_, hb cdv A outer s H E hr, ?_⟩
  obtain ⟨Z, F, P, os, r, hl, hn, k⟩ := h
  have hmo : mask.length = os.length := by rw [hm, hl, hn]
  obtain ⟨⟨fe, ft, ⟨_, efe⟩, h2, nd, hF⟩, sep, zin, fin, _⟩ := r
  subst efe
  rw [List.map_fst_zip (Nat.le_of_eq hl), List.map_snd_zip (Nat.le_of_eq hl.symm)] at h2
  have hon : os.length ≤ N.length := by rw [hl, hn]; exact hN
  have hP : ∀ (i : Nat) v, vs[i]? = some v → vs.getD i .non = v := fun i v h => by rw [List.getD_eq_getElem?_getD, h]; rfl
  have r0 : RS ⟨K, cf, none⟩ Z F (fun i => vs.getD i .non) (initE mask os N.length) [] (L2.start N vs) H := by
    refine ⟨⟨ft, [], init_env hmo hon h2, ⟨rfl, rfl⟩, by rw [List.append_nil]; exact nd, fun a ha => hF a (by rw [List.append_nil] at ha; exact ha)⟩, sep, zin, fin, fun i s hi hp => ?_, fun i a h => by cases h⟩
    obtain ⟨v, hv⟩ := init_pin hmo hl i s hi hp
    unfold L2.start
    rw [List.getElem?_append_left (by rw [List.length_map]; exact lt_of_get hv), List.getElem?_map, hv]
    show some (some v) = some (some (vs.getD i .non))
    rw [hP i v hv]
  refine ⟨Z, F, _, _, [], r0, ?_⟩
  unfold denFn at k
  cases q : db (initE mask os N.length) with
  | nx e => rw [q] at k; exact fun σ' Z' F' H' s' r' => k .non Z' F' H' _ s' ((r'.outs (n := mask.length) hP).push (x := .non) (v := .non) rfl)
  | rt o e => rw [q] at k; exact fun v σ' Z' F' H' s' r' => k v Z' F' H' _ s' (r'.outs (n := mask.length) hP)
  | exc c pl e => rw [q] at k; exact fun σ' Z' F' H' C dd hc py s' r' => k Z' F' H' _ C dd hc py s' (r'.outs (n := mask.length) hP)
  | bk e => rw [q] at k; exact k.elim
  | ct e => rw [q] at k; exact k.elim
  | bad => rw [q] at k; exact k.elim
/-! ### calls -/
def dCallF (den : Den) (p : List Nat) (g : En → Rs (List Ag)) : En → Rs O := fun e => (g e).bind fun as e1 => match den ((ord p as).map (·.1)) with
  | .ok o ps => match wb e1 (ord p as) ps with
    | some e2 => .ok o e2
    | none => .bad
  | .exc c pl ps => match wb e1 (ord p as) ps with
    | some e2 => .exc c pl e2
    | none => .bad
  | .bad => .bad
section
variable {X : Cx} {cl : Cl} {Wo : WX} {pos : Pos}
variable {W : Wd} {Z F Z' F' : Addr → Prop} {P P' : Nat → V} {e : En} {T : Ts} {σ : L2.St} {H H' : Hp} {Q : VK}
theorem rdCallF {den : Den} {p : List Nat} {n : Nat} {g : En → Rs (List Ag)} (hp : p.Perm (List.range n)) (hn : LenIs n g) (h : rdE W Wo (dCallF den p g) σ H Q) :
    rdC W Wo g σ H fun vs H1 => vs.length = n ∧ spD W.un n den (ord p vs) H1 Q (fun c d H => Wo c d σ H) := by
  obtain ⟨Z, F, P, e, T, r0, k⟩ := h
  refine ⟨Z, F, P, e, T, r0, ?_⟩
  unfold dCallF at k
  cases qa : g e with
  | bad => rw [qa] at k; exact k
  | exc c ps e1 => rw [qa] at k; exact k
  | ok as e1 =>
    rw [qa] at k
    simp only [Rs.bind_ok] at k
    intro vs Z1 F1 H1 hl s1 r1 l1
    have han : as.length = n := hn e as e1 qa
    have hvn : vs.length = n := by rw [← hl, han]
    refine ⟨hvn, ?_⟩
    have r2 : RS W Z1 F1 P e1 (((ord p as).map (·.1)).zip (ord p vs) ++ T) σ H1 := by
      refine r1.perm (List.Perm.append_right _ ?_)
      rw [← ord_map, ← ord_zip (by rw [List.length_map, hl])]
      refine (ord_perm ?_).symm
      show p.Perm (List.range ((as.map (·.1)).zip vs).length)
      rw [List.length_zip, List.length_map, hl, Nat.min_self, hvn]
      exact hp
    have hlo : (ord p as).length = (ord p vs).length := ord_len hl
    have hon : (ord p vs).length = n := by
      have := (ord_perm (p := p) (l := vs) (by rw [hvn]; exact hp)).length_eq
      rw [this, hvn]
    obtain ⟨Fc, rc, back⟩ := r2.frame P
    refine ⟨Z1, Fc, P, (ord p as).map (·.1), rc, by rw [List.length_map, hlo], hon, ?_⟩
    cases qd : den ((ord p as).map (·.1)) with
    | bad => rw [qd] at k; exact k.elim
    | ok o ps =>
      rw [qd] at k
      simp only at k
      intro v Z2 F2 H2 P2 s2 r3
      cases qw : wb e1 (ord p as) ps with
      | none => rw [qw] at k; exact k.elim
      | some e2 =>
        rw [qw] at k
        obtain ⟨F3, s3, r4⟩ := back Z2 F2 H2 _ P2 s2 r3
        have r5 : RS W Z2 F3 P e1 (livs ps (ord p vs) ++ ((o, v) :: T)) σ H2 := r4.perm List.perm_middle.symm
        exact k v Z2 F3 H2 (s1.trans s3) (r5.wb hlo (lends_ord hl l1) qw)
    | exc c pl ps =>
      rw [qd] at k
      simp only at k
      intro Z2 F2 H2 P2 C dd hc py s2 r3
      cases qw : wb e1 (ord p as) ps with
      | none => rw [qw] at k; exact k.elim
      | some e2 =>
        rw [qw] at k
        obtain ⟨F3, s3, r4⟩ := back Z2 F2 H2 _ P2 s2 r3
        exact k Z2 F3 H2 C dd hc (Pay.wx (W := W.un) (W' := W) ⟨rfl, rfl⟩ py) (s1.trans s3) (r4.wb hlo (lends_ord hl l1) qw)
theorem rdC_len {n : Nat} {g : En → Rs (List Ag)} {Q : List V → Hp → Prop} (hn : LenIs n g) (h : rdC W Wo g σ H Q) : rdC W Wo g σ H fun vs H1 => vs.length = n ∧ Q vs H1 := by
  obtain ⟨Z, F, P, e, T, r0, k⟩ := h
  refine ⟨Z, F, P, e, T, r0, ?_⟩
  cases qa : g e with
  | bad => rw [qa] at k; exact k
  | exc c ps e1 => rw [qa] at k; exact k
  | ok as e1 =>
    rw [qa] at k
    exact fun vs Z1 F1 H1 hl s1 r1 l1 => ⟨by rw [← hl]; exact hn e as e1 qa, k vs Z1 F1 H1 hl s1 r1 l1⟩
/-- how a call's arguments come to the parameters: n0 positional ones, n1 by the names ks; p tells for each parameter which one -/
structure KB (K : PySem.W.Frag) (fd : FuncData) (ps ks : List Str) (n0 n1 : Nat) (p : List Nat) : Prop where
  to : ∀ (s : Shared) (us ws : List Value), K.In s.heap → us.length = n0 → ws.length = n1 → BindsTo s fd ⟨us, ks.zip ws⟩ (ps.zip (ord p (us ++ ws)))
  pm : p.Perm (List.range (n0 + n1))
theorem KB.plain {K : PySem.W.Frag} {fd : FuncData} {ps : List Str} (b : Binds K fd ps []) {n : Nat} (hn : n = ps.length) : KB K fd ps [] n 0 (List.range n) :=
  ⟨fun s us ws hk h0 h1 => by
    have : ws = [] := List.length_eq_zero_iff.mp h1
    subst this
    have h2 := b s us hk (by rw [List.append_nil, h0, hn])
    rw [List.append_nil, ← h0, ord_range]
    rw [List.append_nil] at h2
    exact h2, List.Perm.refl _⟩
theorem vals_ord {vs : List V} {us : List Value} (r : Vals vs us) (p : List Nat) : Vals (ord p vs) (ord p us) := by
  have hl := r.length
  unfold ord
  induction p with
  | nil => exact .nil
  | cons i p ih =>
    rw [List.filterMap_cons, List.filterMap_cons]
    rcases Nat.lt_or_ge i vs.length with q | q
    · have e1 : vs[i]? = some vs[i] := List.getElem?_eq_getElem q
      obtain ⟨u, e2, ru⟩ := r.get e1
      rw [e1, e2]
      exact .cons ru ih
    · rw [List.getElem?_eq_none q, List.getElem?_eq_none (by omega)]
      exact ih
theorem run_own {CX : CXT} {k : Nat} {f : Addr} {fd : FuncData} {ps : List Str} {sp : Sp} {E : XK} {pins : List (Addr × Obj)} {s : Shared} {us us' : List Value} {kw : List (Str × Value)} {vs : List V}
    (Fn : FnOk X.prog X.w X.K X.mg X.base CX k f fd ps sp) (hr : Room k X.A) (hb : BindsTo s fd ⟨us, kw⟩ (ps.zip us')) (r : Vals vs us') (hx : PassesAt CX X σ E) (I : Inv X pins σ H s) (h : sp vs H Q E) :
    wpAny (model X.prog X.w) X.A (call (.ref f) us kw) (EP X pins σ Q) X.xe s := by
  refine wpAny_call (codeAny_mono (Fn.run X.A X.stack s H ⟨us, kw⟩ us' vs Q E hr I.env0 hb r h) fun r s' hq => ?_)
  cases r with
  | error e => exact hx pins H s e s' I hq
  | ok fl =>
    cases fl with
    | ret u => exact I.after hq
    | next => exact False.elim hq
    | brk => exact False.elim hq
    | cont => exact False.elim hq
theorem pass_own (tk : Takes X Wo) (σ : L2.St) : PassesAt (L2.CX X.prog X.w) X σ (fun c d H => Wo c d σ H) := passAt tk σ
section
variable {k : Nat} {f : Addr} {fd : FuncData} {ps ks : List Str} {n n0 n1 : Nat} {p : List Nat} {den : Den} {x : Str} {np : Pos} {a : Expr} {es : List Expr} {kws : List Keyword} {g g' : En → Rs (List Ag)}
/-- f(..): positional arguments -/
theorem he_fn (Fn : FnOk X.prog X.w X.K X.mg X.base (L2.CX X.prog X.w) k f fd ps (spD (Cx.wd X cl).un n0 den)) (hr : Room k X.A) (tk : Takes X Wo) (hg : Gl X x) (hm : X.mg x = some (.ref f)) (hk : PySem.W.keepIn X.K (.ref f) = true) (hb : KB X.K fd ps [] n0 0 p)
    (ha : HC X cl Wo (a :: es) n0 g) (hdb : (x == ("__debug__" : Str)) = false := by decide) (he : starEach (a :: es) X.env = (false, eval a X.env) :: starEach es X.env := by rfl) (hpl : (backTo pos (starEach es X.env)).any (·.1) = false := by rfl) :
    HE X cl Wo (.Call (.Name x np) (a :: es) [] pos) (dCallF den p g) := by
  refine ⟨fun pins s σ H Q I h => ?_⟩
  refine wpAny_Call_Name_kw (ld_glob I hg hm ?_ hdb)
  refine PySem.W.callWith_K (h₀ := X.base) I.ok.mod.kin hk (thn (ha.run.run pos pins s σ H _ I (rdCallF hb.pm ha.len h)) fun us s1 ⟨vs, H1, I1, r, hn, q⟩ => ⟨I1.kIn, ?_⟩) he hpl
  refine run_own Fn hr ?_ (vals_ord r p) (pass_own tk σ) I1 q
  have := hb.to s1 us [] I1.kIn (by rw [← r.length, hn]; rfl) rfl
  rw [List.append_nil] at this
  exact this
/-- f(.., k = e) -/
theorem he_fnK (Fn : FnOk X.prog X.w X.K X.mg X.base (L2.CX X.prog X.w) k f fd ps (spD (Cx.wd X cl).un (n0 + n1) den)) (hr : Room k X.A) (tk : Takes X Wo) (hg : Gl X x) (hm : X.mg x = some (.ref f)) (hk : PySem.W.keepIn X.K (.ref f) = true) (hb : KB X.K fd ps ks n0 n1 p)
    (ha : HC X cl Wo (a :: es) n0 g) (hkw : HCK X cl Wo kws n1 g') (hall : (backToKw pos (keywordEach kws X.env)).all (·.1.isSome) = true := by rfl) (hks : (backToKw pos (keywordEach kws X.env)).filterMap (·.1) = ks := by rfl)
    (hdb : (x == ("__debug__" : Str)) = false := by decide) (he : starEach (a :: es) X.env = (false, eval a X.env) :: starEach es X.env := by rfl)
    (hpl : ((backTo pos (starEach (a :: es) X.env)).any (·.1) || (backToKw pos (keywordEach kws X.env)).any (·.1.isNone)) = false := by rfl) :
    HE X cl Wo (.Call (.Name x np) (a :: es) kws pos) (dCallF den p (cApp g g')) := by
  refine ⟨fun pins s σ H Q I h => ?_⟩
  refine wpAny_Call_Name_kw (ld_glob I hg hm ?_ hdb)
  have h1 := rdC_len ha.len (rdC_app (rdCallF hb.pm (len_app ha.len hkw.len) h))
  refine PySem.W.callWith_KW (h₀ := X.base) I.ok.mod.kin hk hall (thn (ha.run.run pos pins s σ H _ I h1) fun us s1 ⟨vs, H1, I1, r, hv, q⟩ => ?_) hpl he
  refine thn (hkw.run.run pos pins s1 σ H1 _ I1 q) fun ws s2 ⟨zs, H2, I2, rz, hn, q2⟩ => ⟨I2.kIn, ?_⟩
  rw [hks]
  refine run_own Fn hr (hb.to s2 us ws I2.kIn (by rw [← r.length, hv]) ?_) (vals_ord (r.append rz) p) (pass_own tk σ) I2 q2
  rw [List.length_append, hv] at hn
  rw [← rz.length]
  omega
/-- f(k = e, ..) -/
theorem he_fnK0 (Fn : FnOk X.prog X.w X.K X.mg X.base (L2.CX X.prog X.w) k f fd ps (spD (Cx.wd X cl).un n1 den)) (hr : Room k X.A) (tk : Takes X Wo) (hg : Gl X x) (hm : X.mg x = some (.ref f)) (hk : PySem.W.keepIn X.K (.ref f) = true) (hb : KB X.K fd ps ks 0 n1 p)
    (hkw : HCK X cl Wo kws n1 g') (hall : (backToKw pos (keywordEach kws X.env)).all (·.1.isSome) = true := by rfl) (hks : (backToKw pos (keywordEach kws X.env)).filterMap (·.1) = ks := by rfl)
    (hdb : (x == ("__debug__" : Str)) = false := by decide) (hpl : ((backTo pos (starEach [] X.env)).any (·.1) || (backToKw pos (keywordEach kws X.env)).any (·.1.isNone)) = false := by rfl) :
    HE X cl Wo (.Call (.Name x np) [] kws pos) (dCallF den p g') := by
  refine ⟨fun pins s σ H Q I h => ?_⟩
  refine wpAny_Call_Name_kw (ld_glob I hg hm ?_ hdb)
  have pm : p.Perm (List.range n1) := by have := hb.pm; rw [Nat.zero_add] at this; exact this
  refine PySem.W.callWith_KW0 (h₀ := X.base) I.ok.mod.kin hk hall (thn (hkw.run.run pos pins s σ H _ I (rdCallF pm hkw.len h)) fun ws s2 ⟨zs, H2, I2, rz, hn, q2⟩ => ⟨I2.kIn, ?_⟩) hpl
  rw [hks]
  refine run_own Fn hr (hb.to s2 [] ws I2.kIn rfl (by rw [← rz.length, hn])) (vals_ord (us := [] ++ ws) rz p) (pass_own tk σ) I2 q2
/-- f() -/
theorem he_fn0 (Fn : FnOk X.prog X.w X.K X.mg X.base (L2.CX X.prog X.w) k f fd ps (spD (Cx.wd X cl).un 0 den)) (hr : Room k X.A) (tk : Takes X Wo) (hg : Gl X x) (hm : X.mg x = some (.ref f)) (hk : PySem.W.keepIn X.K (.ref f) = true) (hb : KB X.K fd ps [] 0 0 [])
    (hdb : (x == ("__debug__" : Str)) = false := by decide) : HE X cl Wo (.Call (.Name x np) [] [] pos) (dCallF den [] cNil) := by
  refine ⟨fun pins s σ H Q I h => ?_⟩
  refine wpAny_Call_Name_kw (ld_glob I hg hm ?_ hdb)
  obtain ⟨_, q⟩ := rdC_nil (rdCallF (n := 0) (List.Perm.refl _) len_nil h)
  exact PySem.W.callWith_K0 I.kIn hk (run_own (us := []) (us' := []) Fn hr (hb.to s [] [] I.kIn rfl rfl) .nil (pass_own tk σ) I q)
end
end
end MX

/-! MX9: writes to owned containers, methods of slots, iterators, comprehensions. -/
namespace MX
open PySem L2
section
variable {X : Cx} {cl : Cl} {Wo : WX} {pos : Pos}
variable {W : Wd} {Z F Z' F' : Addr → Prop} {P P' : Nat → V} {e : En} {T : Ts} {σ : L2.St} {H H' : Hp} {Q : VK}
theorem RS.write {C C' : Ts} {a : Addr} {o : HO} (r : RS W Z F P e (C ++ T) σ H) (hm : Mut (some o))
    (h1 : ∀ fC, ROs W H Z (C.map (·.1)) (C.map (·.2)) fC → a ∈ fC)
    (h2 : Kp H Z (upd H a o) Z → ∀ fC, ROs W H Z (C.map (·.1)) (C.map (·.2)) fC → fC.Nodup → ∃ f', ROs W (upd H a o) Z (C'.map (·.1)) (C'.map (·.2)) f' ∧ f'.Nodup ∧ ∀ b ∈ f', b ∈ fC) :
    Stp Z F H Z F (upd H a o) ∧ RS W Z F P e (C' ++ T) σ (upd H a o) := by
  obtain ⟨⟨fe, ft, hE, hT, nd, hF⟩, sep, zin, fin, pin, px⟩ := r
  rw [List.map_append, List.map_append] at hT
  obtain ⟨vs', us, fa, fT, ew, ef, a1, a2⟩ := hT.split
  have hl2 : vs'.length = (C.map (·.2)).length := by rw [← a1.len, List.length_map, List.length_map]
  have e1 := List.append_inj ew hl2.symm
  obtain ⟨rfl, rfl⟩ : vs' = C.map (·.2) ∧ us = T.map (·.2) := ⟨e1.1.symm, e1.2.symm⟩
  subst ef
  have ha := h1 fa a1
  have nd1 := List.nodup_append.mp nd
  have nd2 := List.nodup_append.mp nd1.2.1
  have fa_F : ∀ a ∈ fa, F a := fun a ha => hF a (List.mem_append_right _ (List.mem_append_left _ ha))
  have aF := fa_F a ha
  have kp : Kp H Z (upd H a o) Z := ⟨fun _ z => z, fun b u z hb => by rw [upd_ne (fun q => sep a aF (by rw [← q]; exact z))]; exact hb, fun b xs hb => by rw [upd_ne (fun q => by rw [q] at hb; exact notMut_tup hb (fin a aF))]; exact hb, fun b ob u hb => by rw [upd_ne (fun q => by rw [q] at hb; exact notMut_frz hb (fin a aF))]; exact hb⟩
  obtain ⟨f', b1, b2, b3⟩ := h2 kp fa a1 nd2.1
  have ne1 : ∀ b ∈ fe, b ≠ a := fun b hb q => nd1.2.2 b hb a (List.mem_append_left _ ha) q
  have ne2 : ∀ b ∈ fT, b ≠ a := fun b hb q => nd2.2.2 a ha b hb q.symm
  refine ⟨⟨fun _ z => z, fun b u hb nf => by rw [upd_ne (fun q => nf (by rw [q]; exact aF))]; exact hb, dom_upd, fun _ f => .inl f, fun _ z => .inl z⟩, ⟨⟨fe, f' ++ fT, hE.keep kp _ _ _ fun b hb u hu => by rw [upd_ne (ne1 b hb)]; exact hu, ?_, ?_, fun b hb => ?_⟩, sep, fun b z => dom_upd b (zin b z), fun b f => ?_, pin, px⟩⟩
  · rw [List.map_append, List.map_append]
    exact ROs.append b1 (a2.keep kp _ _ _ fun b hb u hu => by rw [upd_ne (ne2 b hb)]; exact hu)
  · rw [List.nodup_append]
    refine ⟨nd1.1, ?_, fun b hb c hc q => ?_⟩
    · rw [List.nodup_append]
      exact ⟨b2, nd2.2.1, fun b hb c hc q => nd2.2.2 b (b3 b hb) c hc q⟩
    · rcases List.mem_append.mp hc with z | z
      · exact nd1.2.2 b hb c (List.mem_append_left _ (b3 c z)) q
      · exact nd1.2.2 b hb c (List.mem_append_right _ z) q
  · rcases List.mem_append.mp hb with z | z
    · exact hF b (List.mem_append_left _ z)
    · rcases List.mem_append.mp z with z | z
      · exact fa_F b (b3 b z)
      · exact hF b (List.mem_append_right _ (List.mem_append_right _ z))
  · by_cases q : b = a
    · rw [q, upd_same]; exact hm
    · rw [upd_ne q]; exact fin b f
/-! ### methods of a slot's list -/
/-- what a method must say: c the list's items, os the arguments; behind it c', the answer z -/
def MutOk (W : Wd) (f : List O → List O → Option (List O × O)) (r : V → List V → Hp → VK → Prop) : Prop :=
  ∀ Z F P e T σ H c os c' z a vs Q, f c os = some (c', z) → os.length = vs.length → RS W Z F P e ((.lst c, .ref a) :: (os.zip vs ++ T)) σ H →
    (∀ w Z' F' H', Stp Z F H Z' F' H' → RS W Z' F' P e ((z, w) :: (.lst c', .ref a) :: T) σ H' → Q w H') → r (.ref a) vs H Q
def isLst : Option O → Bool
  | some (.lst _) => true
  | _ => false
def dMut (i : Nat) (f : List O → List O → Option (List O × O)) (d : En → Rs (List O)) : En → Rs O := fun e => match isLst (slot e i) with
  | true => (d e).bind fun os e1 => match slot e1 i with
    | some (.lst c) => match f c os with
      | some (c', z) => .ok z (putS e1 i (.lst c'))
      | none => .bad
    | _ => .bad
  | false => .bad
theorem isLst_some {o : Option O} (h : isLst o = true) : ∃ c, o = some (.lst c) := by
  unfold isLst at h
  split at h
  · exact ⟨_, rfl⟩
  · cases h
theorem rdMut {i : Nat} {f} {r : V → List V → Hp → VK → Prop} {d : En → Rs (List O)} (hf : MutOk W f r) (h : rdE W Wo (dMut i f d) σ H Q) :
    tVar i σ H fun x H1 => tyV W.K "list" x H1 ∧ rdA W Wo d σ H1 fun xs H2 => r x xs H2 Q := by
  obtain ⟨Z, F, P, e, T, r0, k⟩ := h
  unfold dMut at k
  cases q0 : isLst (slot e i) with
  | false => rw [q0] at k; exact k.elim
  | true =>
    obtain ⟨c0, q1⟩ := isLst_some q0
    rw [q0] at k
    simp only at k
    obtain ⟨v, f0, hv, ⟨a, vs0, f1, ev, hh, _, _⟩, _⟩ := slot_get r0 q1
    subst ev
    refine ⟨.ref a, hv, .inl ⟨rfl, vs0, .inl (.inl hh)⟩, Z, F, P, e, T, r0, ?_⟩
    cases qd : d e with
    | bad => rw [qd] at k; exact k
    | exc c ps e1 => rw [qd] at k; exact k
    | ok os e1 =>
      rw [qd] at k
      simp only [Rs.bind_ok] at k
      intro vs Z1 F1 H1 hl s1 r1
      cases q2 : slot e1 i with
      | none => rw [q2] at k; exact k.elim
      | some o =>
        rw [q2] at k
        cases o with
        | lst c =>
          simp only at k
          cases q3 : f c os with
          | none => rw [q3] at k; exact k.elim
          | some cz =>
            obtain ⟨c', z⟩ := cz
            rw [q3] at k
            simp only at k
            obtain ⟨s, hs, hc⟩ := slot_some q2
            obtain ⟨v', hv', r2⟩ := r1.lend hs hc
            rw [hv] at hv'
            cases hv'
            refine hf Z1 F1 P _ T σ H1 c os c' z a vs Q q3 hl r2 fun w Z2 F2 H2 s2 r3 => ?_
            have r4 : RS W Z2 F2 P (e1.set i s.lent) ((.lst c', .ref a) :: (z, w) :: T) σ H2 := r3.perm (List.Perm.swap _ _ _)
            have r5 := RS.back r4 (i := i) (s := s.lent) (get_set_self hs) (by cases s <;> rfl) hv
            rw [set_set, lent_put hc] at r5
            have e5 : putS e1 i (.lst c') = e1.set i (s.put (.lst c')) := by unfold putS; rw [modS_eq hs]
            rw [e5] at k
            exact k w Z2 F2 H2 (s1.trans s2) r5
        | _ => exact k.elim
/-- x.m(e, ..), x a slot -/
theorem he_mut {i : Nat} {x : Str} {p apos : Pos} {name : Str} {id : String} {ex : Expr} {es : List Expr} {f} {r : V → List V → Hp → VK → Prop} {d : En → Rs (List O)} (hf : MutOk (Cx.wd X cl) f r)
    (h : PE X (.Call (.Attribute (.Name x p) name apos) (ex :: es) [] pos) (tBM X.K "list" r (tVar i) (rdA (Cx.wd X cl) Wo d))) : HE X cl Wo (.Call (.Attribute (.Name x p) name apos) (ex :: es) [] pos) (dMut i f d) :=
  PE.imp h fun σ H Q h => rdMut hf h
theorem he_mut0 {i : Nat} {x : Str} {p apos : Pos} {name : Str} {id : String} {f} {r : V → List V → Hp → VK → Prop} (hf : MutOk (Cx.wd X cl) f r)
    (h : PE X (.Call (.Attribute (.Name x p) name apos) [] [] pos) (tBM0 X.K "list" r (tVar i))) : HE X cl Wo (.Call (.Attribute (.Name x p) name apos) [] [] pos) (dMut i f aNil) :=
  PE.imp h fun σ H Q h => by
    obtain ⟨v, hv, ty, Z, F, P, e, T, r0, k⟩ := rdMut hf h
    exact ⟨v, hv, ty, k [] Z F H rfl .refl r0⟩
theorem ros_one {o : O} {v : V} {f : List Addr} (h : ROs W H Z [o] [v] f) : RO W H Z o v f := by
  obtain ⟨v', r, f1, f2, ev, ef, h1, er, e2⟩ := h
  cases ev
  subst ef e2
  rw [List.append_nil]
  exact h1
def fAppend : List O → List O → Option (List O × O)
  | c, [o] => if c.length < sizeLine then some (c ++ [o], .d .non) else none
  | _, _ => none
theorem mAppend : MutOk W fAppend rAppend := by
  intro Z F P e T σ H c os c' z a vs Q hf hl r k
  unfold fAppend at hf
  split at hf
  · rename_i o
    split at hf
    · rename_i hz; cases hf
      match vs, hl with
      | [v], _ =>
        have r' : RS W Z F P e (([(.lst c, .ref a), (o, v)] : Ts) ++ T) σ H := r
        obtain ⟨f, hro, _⟩ := r.top
        obtain ⟨a', us, f', ev, hh, _, hc⟩ := hro
        cases ev
        refine ⟨a, us, v, rfl, rfl, hh, by rw [← hc.len]; exact hz, ?_⟩
        have hw := RS.write (C' := [(.lst (c ++ [o]), .ref a)]) (o := .lst (us ++ [v])) r' trivial (fun fC hC => by
            obtain ⟨v', rr, f1, f2, ev, ef, ⟨a', us', f3, ev', _, e3, _⟩, _⟩ := hC
            cases ev
            cases ev'
            rw [ef, e3]
            exact List.mem_append_left _ List.mem_cons_self) (fun kp fC hC nd => by
            obtain ⟨v', rr, f1, f2, ev, ef, ⟨a', us', f3, ev', hh', e3, hcs⟩, ho⟩ := hC
            cases ev
            cases ev'
            rw [hh] at hh'
            cases hh'
            have ho' := ros_one ho
            subst ef e3
            have nd1 := List.nodup_append.mp nd
            have nd3 := List.nodup_cons.mp nd1.1
            have na : ∀ b ∈ f3, b ≠ a := fun b hb q => nd3.1 (by rw [← q]; exact hb)
            have nb : ∀ b ∈ f2, b ≠ a := fun b hb q => nd1.2.2 a List.mem_cons_self b hb q.symm
            refine ⟨a :: (f3 ++ f2), ⟨_, _, a :: (f3 ++ f2), [], rfl, (List.append_nil _).symm, ⟨a, us ++ [v], f3 ++ f2, rfl, upd_same, rfl, ROs.append (hcs.keep kp _ _ _ fun b hb u hu => by rw [upd_ne (na b hb)]; exact hu) (ROs.one (ho'.keep kp _ _ _ fun b hb u hu => by rw [upd_ne (nb b hb)]; exact hu))⟩, rfl, rfl⟩, nd, fun b hb => hb⟩)
        exact k .non Z F _ hw.1 (hw.2.push (x := .non) (v := .non) rfl)
    · cases hf
  · cases hf
/-- pop(): the last one -/
def fPop : List O → List O → Option (List O × O)
  | c, [] => match c[c.length - 1]? with
    | some o => some (c.dropLast, o)
    | none => none
  | _, _ => none
theorem ros_eraseIdx : ∀ {os : List O} {vs : List V} {f : List Addr} {i : Nat} {o : O}, ROs W H Z os vs f → os[i]? = some o →
    ∃ v f1 f2 f3, vs[i]? = some v ∧ f = f1 ++ f2 ++ f3 ∧ RO W H Z o v f2 ∧ ROs W H Z (os.eraseIdx i) (vs.eraseIdx i) (f1 ++ f3)
  | [], _, _, _, _, _, e => by simp at e
  | p :: os, vs, f, 0, o, ⟨v, r, f1, f2, e, ef, h1, h2⟩, e' => by
    have : p = o := Option.some.inj e'
    subst this
    exact ⟨v, [], f1, f2, by rw [e]; rfl, by rw [ef]; rfl, h1, by rw [e]; exact h2⟩
  | p :: os, vs, f, i + 1, o, ⟨v, r, f1, f2, e, ef, h1, h2⟩, e' => by
    obtain ⟨x, g1, g2, g3, hx, eg, hr, h3⟩ := ros_eraseIdx (i := i) h2 e'
    exact ⟨x, f1 ++ g1, g2, g3, by rw [e]; exact hx, by rw [ef, eg]; simp, hr, by rw [e]; exact ⟨v, r.eraseIdx i, f1, g1 ++ g3, rfl, by simp, h1, h3⟩⟩
theorem mPopCore {Z F : Addr → Prop} {P : Nat → V} {e : En} {T : Ts} {σ : L2.St} {H : Hp} {c : List O} {a : Addr} {i : Nat} {o : O} (r : RS W Z F P e ((.lst c, .ref a) :: T) σ H) (hi : c[i]? = some o) :
    ∃ us v, H a = some (.lst us) ∧ us.length = c.length ∧ us[i]? = some v ∧ Stp Z F H Z F (upd H a (.lst (us.eraseIdx i))) ∧ RS W Z F P e ((o, v) :: (.lst (c.eraseIdx i), .ref a) :: T) σ (upd H a (.lst (us.eraseIdx i))) := by
  obtain ⟨f, ⟨a', us, f', ev, hh, _, hc⟩, _⟩ := r.top
  cases ev
  obtain ⟨v, g1, g2, g3, hv, _, _, _⟩ := ros_eraseIdx hc hi
  refine ⟨us, v, hh, hc.len.symm, hv, ?_⟩
  have r' : RS W Z F P e (([(.lst c, .ref a)] : Ts) ++ T) σ H := r
  refine RS.write (C' := [(o, v), (.lst (c.eraseIdx i), .ref a)]) r' trivial (fun fC hC => ?_) (fun kp fC hC nd => ?_)
  · obtain ⟨a', us', f3, ev', _, e3, _⟩ := ros_one hC
    cases ev'
    rw [e3]; exact List.mem_cons_self
  · obtain ⟨a', us', f3, ev', hh', e3, hcs⟩ := ros_one hC
    cases ev'
    rw [hh] at hh'
    cases hh'
    obtain ⟨v', g1, g2, g3, hv', eg, ho, her⟩ := ros_eraseIdx hcs hi
    rw [hv] at hv'
    cases hv'
    subst e3 eg
    have nd1 := List.nodup_cons.mp nd
    have na : ∀ b ∈ g1 ++ g2 ++ g3, b ≠ a := fun b hb q => nd1.1 (by rw [← q]; exact hb)
    have pp : (g2 ++ (a :: (g1 ++ g3))).Perm (a :: (g1 ++ g2 ++ g3)) := by
      refine List.perm_middle.trans (List.Perm.cons a ?_)
      rw [← List.append_assoc]
      exact List.Perm.append_right _ List.perm_append_comm
    refine ⟨g2 ++ (a :: (g1 ++ g3)), ⟨v, [.ref a], g2, a :: (g1 ++ g3), rfl, rfl, ho.keep kp _ _ _ fun b hb u hu => ?_, ROs.one ⟨a, us.eraseIdx i, g1 ++ g3, rfl, upd_same, rfl, her.keep kp _ _ _ fun b hb u hu => ?_⟩⟩, pp.symm.nodup nd, fun b hb => pp.mem_iff.mp hb⟩
    · rw [upd_ne (na b (List.mem_append_left _ (List.mem_append_right _ hb)))]; exact hu
    · rw [upd_ne (na b ?_)]
      · exact hu
      · rcases List.mem_append.mp hb with q | q
        · exact List.mem_append_left _ (List.mem_append_left _ q)
        · exact List.mem_append_right _ q
theorem dropLast_erase {α : Type} (l : List α) : l.dropLast = l.eraseIdx (l.length - 1) := by
  rw [List.dropLast_eq_take]
  induction l with
  | nil => rfl
  | cons x l ih =>
    cases l with
    | nil => rfl
    | cons y l =>
      show x :: List.take ((y :: l).length - 1) (y :: l) = x :: (y :: l).eraseIdx ((y :: l).length - 1)
      rw [ih]
theorem mPop : MutOk W fPop rPop := by
  intro Z F P e T σ H c os c' z a vs Q hf hl r k
  unfold fPop at hf
  split at hf
  · split at hf
    · rename_i o ho; cases hf
      have : vs = [] := List.length_eq_zero_iff.mp hl.symm
      subst this
      have r1 : RS W Z F P e ((.lst c, .ref a) :: T) σ H := r
      obtain ⟨us, v, hh, hlen, hv, s1, r2⟩ := mPopCore r1 ho
      rw [← hlen, ← dropLast_erase] at s1
      rw [dropLast_erase] at k
      rw [← hlen] at r2 hv
      rw [← dropLast_erase us] at r2
      rw [← hlen] at k
      exact ⟨a, us, v, rfl, rfl, hh, hv, k v Z F _ s1 r2⟩
    · cases hf
  · cases hf
def fPopAt : List O → List O → Option (List O × O)
  | c, [.d (.int i)] => if 0 ≤ i ∧ i < c.length ∧ c.length ≤ sizeLine then match c[i.toNat]? with
    | some o => some (c.eraseIdx i.toNat, o)
    | none => none else none
  | _, _ => none
theorem mPopAt : MutOk W fPopAt rPopAt := by
  intro Z F P e T σ H c os c' z a vs Q hf hl r k
  unfold fPopAt at hf
  split at hf
  · rename_i i
    split at hf
    · rename_i hb
      split at hf
      · rename_i o ho; cases hf
        match vs, hl with
        | [v], _ =>
          have r1 : RS W Z F P e (([(.lst c, .ref a), (.d (.int i), v)] : Ts) ++ T) σ H := r
          have r2 : RS W Z F P e ((.d (.int i), v) :: (.lst c, .ref a) :: T) σ H := r.perm (List.Perm.swap _ _ _)
          have ev : v = .int i := r2.topD
          subst ev
          obtain ⟨us, w, hh, hlen, hv, s1, r3⟩ := mPopCore r2.pop ho
          have hs : (sizeLine : Int) ≤ 2 ^ 62 := by decide
          refine ⟨a, us, i, i.toNat, w, rfl, rfl, hh, by omega, by have := hb.2.2; omega, ?_, hv, k w Z F _ s1 r3⟩
          have h3 : ¬ i < 0 := by omega
          unfold seqIndex?
          rw [hlen]
          simp only [h3, if_false, hb.1, hb.2.1, decide_true, Bool.and_self, if_true]
      · cases hf
    · cases hf
  · cases hf

/-! ### iterators -/
def rangeD (lo : Int) (n : Nat) : List D := (List.range n).map fun (i : Nat) => .int (lo + (i : Int))
theorem rangeD_len {lo : Int} {n : Nat} : (rangeD lo n).length = n := by unfold rangeD; rw [List.length_map, List.length_range]
theorem rangeD_get {lo : Int} {n i : Nat} {d : D} (h : (rangeD lo n)[i]? = some d) : i < n ∧ d = .int (lo + (i : Int)) := by
  have hi : i < n := by
    have := lt_of_get h
    rw [rangeD_len] at this
    exact this
  refine ⟨hi, ?_⟩
  unfold rangeD at h
  rw [List.getElem?_map, List.getElem?_range hi] at h
  exact (Option.some.inj h).symm
theorem itr_ok {lo : Int} {n : Nat} : ItOk W (Itr lo n) [] (rangeD lo n) := by
  intro i Z F P e T σ H r
  refine ⟨fun d hd => ?_, fun hle => by rw [rangeD_len] at hle; exact Nat.le_of_eq hle.symm⟩
  obtain ⟨hi, rfl⟩ := rangeD_get hd
  exact ⟨hi, fun x H' ⟨eH, hx⟩ => by subst eH hx; exact ⟨Z, F, .refl, r.push rfl⟩⟩
/-- the operands of an iterator's making -/
def iOps (d : En → Rs (List Ar)) (f : List O → Option (List D)) : En → Rs (List D) := fun e => (d e).bind fun xs e1 => match gets e1 xs with
  | some os => match f os with
    | some ds => .ok ds e1
    | none => .bad
  | none => .bad
theorem rdOps {d : En → Rs (List Ar)} {f : List O → Option (List D)} {R : It → Hp → Prop} {K : List V → Hp → Prop} (h : rdI W Wo (iOps d f) σ H R)
    (hk : ∀ Z F P e T H1 os vs ds, f os = some ds → Sees W H1 Z os vs → RS W Z F P e T σ H1 → (∀ J, ItOk W J [] ds → R J H1) → K vs H1) : rdVs W Wo d σ H K := by
  obtain ⟨Z, F, P, e, T, r0, k⟩ := h
  refine ⟨Z, F, P, e, T, r0, ?_⟩
  unfold iOps at k
  cases qa : d e with
  | bad => rw [qa] at k; exact k
  | exc c ps e1 => rw [qa] at k; exact k
  | ok xs e1 =>
    rw [qa] at k
    simp only [Rs.bind_ok] at k
    intro vs Z1 F1 H1 hl s1 r1 a1
    cases g : gets e1 xs with
    | none => rw [g] at k; exact k.elim
    | some os =>
      rw [g] at k
      simp only at k
      obtain ⟨ss, r2⟩ := sees_tmps hl r1 a1 g
      cases qf : f os with
      | none => rw [qf] at k; exact k.elim
      | some ds =>
        rw [qf] at k
        exact hk Z1 F1 P e1 T H1 os vs ds qf ss r2 fun J hJ => k Z1 F1 H1 J [] s1 r2 hJ
theorem Sees.three {o p q : O} {vs : List V} (h : Sees W H Z [o, p, q] vs) : ∃ v u w, vs = [v, u, w] ∧ See W H Z o v ∧ See W H Z p u ∧ See W H Z q w := by
  match vs, h with
  | [v, u, w], ⟨h, h', h'', _⟩ => exact ⟨v, u, w, rfl, h, h', h''⟩
def inB (i : Int) : Bool := decide (-(2 ^ 62) ≤ i) && decide (i < 2 ^ 62)
theorem inB_of {i : Int} (h : inB i = true) : -(2 ^ 62) ≤ i ∧ i < 2 ^ 62 := by
  unfold inB at h
  rw [Bool.and_eq_true] at h
  exact ⟨of_decide_eq_true h.1, of_decide_eq_true h.2⟩
def gR1 : List O → Option (List D)
  | [.d (.int j)] => if inB j = true then some (rangeD 0 j.toNat) else none
  | _ => none
theorem hi_range1 {tg a : Expr} {d} {p : Pos} (hg : Gl X "range") (hm : X.mg "range" = none) (ha : HVs X cl Wo [a] d) (hs : starEach [a] X.env = [(false, eval a X.env)] := by rfl) : HI X cl Wo tg (.Call (.Name "range" p) [a] [] pos) (iOps d gR1) :=
  PI.imp (pi_range1 hg hm ha hs) fun σ H R h => rdOps h fun Z F P e T H1 os vs ds hf ss r k => by
    unfold gR1 at hf
    split at hf
    · split at hf
      · rename_i j hb; cases hf
        obtain ⟨v, rfl, s⟩ := ss.one
        obtain ⟨h1, h2⟩ := inB_of hb
        exact ⟨j, by rw [s.int], h1, h2, k _ itr_ok⟩
      · cases hf
    · cases hf
def gR2 : List O → Option (List D)
  | [.d (.int i), .d (.int j)] => if (inB i && inB j) = true then some (rangeD i (j - i).toNat) else none
  | _ => none
theorem hi_range2 {tg a b : Expr} {d} {p : Pos} (hg : Gl X "range") (hm : X.mg "range" = none) (ha : HVs X cl Wo [a, b] d) (hs : starEach [a, b] X.env = [(false, eval a X.env), (false, eval b X.env)] := by rfl) (hs2 : starEach [b] X.env = [(false, eval b X.env)] := by rfl) :
    HI X cl Wo tg (.Call (.Name "range" p) [a, b] [] pos) (iOps d gR2) :=
  PI.imp (pi_range2 hg hm ha hs hs2) fun σ H R h => rdOps h fun Z F P e T H1 os vs ds hf ss r k => by
    unfold gR2 at hf
    split at hf
    · split at hf
      · rename_i i j hb; cases hf
        obtain ⟨v, u, rfl, s, s'⟩ := ss.two
        rw [Bool.and_eq_true] at hb
        obtain ⟨h1, h2⟩ := inB_of hb.1
        obtain ⟨h3, h4⟩ := inB_of hb.2
        exact ⟨i, j, by rw [s.int, s'.int], ⟨h1, h2, h3, h4⟩, k _ itr_ok⟩
      · cases hf
    · cases hf
/-- a range with a step: n turns -/
def stepD (lo c : Int) (n : Nat) : List D := (List.range n).map fun (i : Nat) => .int (lo + (i : Int) * c)
theorem stepD_len {lo c : Int} {n : Nat} : (stepD lo c n).length = n := by unfold stepD; rw [List.length_map, List.length_range]
theorem stepD_get {lo c : Int} {n i : Nat} {d : D} (h : (stepD lo c n)[i]? = some d) : i < n ∧ d = .int (lo + (i : Int) * c) := by
  have hi : i < n := by
    have := lt_of_get h
    rw [stepD_len] at this
    exact this
  refine ⟨hi, ?_⟩
  unfold stepD at h
  rw [List.getElem?_map, List.getElem?_range hi] at h
  exact (Option.some.inj h).symm
theorem itc_ok {lo c : Int} {n : Nat} : ItOk W (Itc lo c n) [] (stepD lo c n) := by
  intro i Z F P e T σ H r
  refine ⟨fun d hd => ?_, fun hle => by rw [stepD_len] at hle; exact Nat.le_of_eq hle.symm⟩
  obtain ⟨hi, rfl⟩ := stepD_get hd
  exact ⟨hi, fun x H' ⟨eH, hx⟩ => by subst eH hx; exact ⟨Z, F, .refl, r.push rfl⟩⟩
def gR3 : List O → Option (List D)
  | [.d (.int i), .d (.int j), .d (.int c)] => if c ≠ 0 ∧ c.natAbs < 1073741824 ∧ Builtin.Range.small i j c = true then some (stepD i c (Builtin.Range.rangeSize i j c).toNat) else none
  | _ => none
end
end MX

/-! MXa: list comprehensions; more iterators. -/
namespace MX
open PySem L2
open PyProof.Rows (envOfC)
def wipeE : En → List Nat → En
  | e, [] => e
  | e, v :: vs => (wipeE e vs).set v .no
section
variable {X : Cx} {cl : Cl} {Wo : WX} {pos : Pos}
variable {W : Wd} {Z F Z' F' : Addr → Prop} {P P' : Nat → V} {e : En} {T : Ts} {σ : L2.St} {H H' : Hp} {Q : VK}
theorem wipeE_len {e : En} : ∀ vs : List Nat, (wipeE e vs).length = e.length
  | [] => rfl
  | v :: vs => by rw [show wipeE e (v :: vs) = (wipeE e vs).set v .no from rfl, List.length_set, wipeE_len vs]
/-- a slot forgotten, its value any -/
theorem REnv.forget : ∀ {e : List (Option O)} {σ : L2.St} {f : List Addr} {i : Nat} (x : Option V), REnv W H Z e σ f → ∃ f1 f2 f3, f = f1 ++ f2 ++ f3 ∧ REnv W H Z (e.set i none) (σ.set i x) (f1 ++ f3)
  | [], σ, f, i, x, h => by
    obtain ⟨es, ef⟩ := h
    subst es ef
    exact ⟨[], [], [], rfl, rfl, rfl⟩
  | none :: e, σ, f, 0, x, ⟨y, r, es, h⟩ => ⟨[], [], f, rfl, by rw [es]; exact ⟨x, r, rfl, h⟩⟩
  | some p :: e, σ, f, 0, x, ⟨v, r, f1, f2, es, ef, h1, h2⟩ => ⟨[], f1, f2, by rw [ef]; rfl, by rw [es]; exact ⟨x, r, rfl, h2⟩⟩
  | none :: e, σ, f, i + 1, x, ⟨y, r, es, h⟩ => by
    obtain ⟨f1, f2, f3, ef, hr⟩ := REnv.forget (i := i) x h
    exact ⟨f1, f2, f3, ef, by rw [es]; exact ⟨y, _, rfl, hr⟩⟩
  | some p :: e, σ, f, i + 1, x, ⟨v, r, f1, f2, es, ef, h1, h2⟩ => by
    obtain ⟨g1, g2, g3, eg, hr⟩ := REnv.forget (i := i) x h2
    refine ⟨f1 ++ g1, g2, g3, by rw [ef, eg]; simp, ?_⟩
    rw [es]
    exact ⟨v, r.set i x, f1, g1 ++ g3, rfl, by simp, h1, hr⟩
theorem RS.forget (r : RS W Z F P e T σ H) (i : Nat) (x : Option V) : RS W Z F P (e.set i .no) T (σ.set i x) H := by
  obtain ⟨⟨fe, ft, h1, h2, nd, hF⟩, sep, zin, fin, pin, px⟩ := r
  obtain ⟨f1, f2, f3, ef, hr⟩ := h1.forget (i := i) x
  have sub : (f1 ++ f3 ++ ft).Sublist (fe ++ ft) := by
    rw [ef]
    refine List.Sublist.append_right ?_ _
    rw [List.append_assoc]
    exact List.Sublist.append_left (List.sublist_append_right _ _) _
  refine ⟨⟨f1 ++ f3, ft, ?_, h2, nd.sublist sub, fun a ha => hF a (sub.subset ha)⟩, sep, zin, fin, fun j t hj hp => ?_, px⟩
  · rw [map_set_cont]; exact hr
  · by_cases ij : i = j
    · subst ij
      rw [List.getElem?_set] at hj
      simp only [if_true] at hj
      split at hj
      · cases hj; cases hp
      · cases hj
    · rw [List.getElem?_set_ne ij] at hj
      rw [List.getElem?_set_ne ij]
      exact pin j t hj hp
theorem RS.wipe (r : RS W Z F P e T σ H) : ∀ vs : List Nat, RS W Z F P (wipeE e vs) T (wipe σ vs) H
  | [] => r
  | v :: vs => (RS.wipe r vs).forget v none
theorem wipe_kps {vs : List Nat} {σ σ' : L2.St} (k : Kps vs σ σ') : L2.wipe σ' vs = L2.wipe σ vs := by
  have gen : ∀ (us : List Nat), (∀ j, j ∉ vs → (L2.wipe σ' us)[j]? = (L2.wipe σ us)[j]?) ∧ (∀ j, j ∈ us → (L2.wipe σ' us)[j]? = (L2.wipe σ us)[j]?) := by
    intro us
    induction us with
    | nil => exact ⟨fun j h => k.2 j h, fun j h => nomatch h⟩
    | cons u us ih =>
      have e1 : L2.wipe σ' (u :: us) = (L2.wipe σ' us).set u none := rfl
      have e2 : L2.wipe σ (u :: us) = (L2.wipe σ us).set u none := rfl
      have hl : (L2.wipe σ' us).length = (L2.wipe σ us).length := by rw [wipe_length, wipe_length, k.1]
      refine ⟨fun j h => ?_, fun j h => ?_⟩
      · rw [e1, e2, List.getElem?_set, List.getElem?_set, hl, ih.1 j h]
      · rw [e1, e2, List.getElem?_set, List.getElem?_set, hl]
        by_cases q : u = j
        · simp [q]
        · simp only [q, if_false]
          rcases List.mem_cons.mp h with z | z
          · exact absurd z.symm q
          · exact ih.2 j z
  refine List.ext_getElem? fun j => ?_
  by_cases h : j ∈ vs
  · exact (gen vs).2 j h
  · exact (gen vs).1 j h
/-- what was forgotten may be anything -/
theorem RS.unwipe {vs : List Nat} {e0 : En} (r : RS W Z F P (wipeE e0 vs) T (L2.wipe σ vs) H) (hl : σ.length = e0.length) : RS W Z F P (wipeE e0 vs) T σ H := by
  have gen : ∀ (us : List Nat) (e : En) (τ : L2.St), (∀ u ∈ us, e[u]? = none ∨ e[u]? = some .no) → RS W Z F P e T (L2.wipe τ us) H → RS W Z F P e T τ H := by
    intro us
    induction us with
    | nil => exact fun e τ _ r => r
    | cons u us ih =>
      intro e τ hu r
      refine ih e τ (fun w hw => hu w (List.mem_cons_of_mem _ hw)) ?_
      have e1 : L2.wipe τ (u :: us) = (L2.wipe τ us).set u none := rfl
      rw [e1] at r
      have r2 := r.forget u ((L2.wipe τ us)[u]?.getD none)
      have e2 : ((L2.wipe τ us).set u none).set u ((L2.wipe τ us)[u]?.getD none) = L2.wipe τ us := by
        rw [List.set_set]
        refine List.ext_getElem? fun j => ?_
        rw [List.getElem?_set]
        by_cases q : u = j
        · subst q
          simp only [if_true]
          split
          · rename_i h
            rw [List.getElem?_eq_getElem h]; rfl
          · rename_i h
            rw [List.getElem?_eq_none (by omega)]
        · simp [q]
      rw [e2] at r2
      have e3 : e.set u .no = e := by
        refine List.ext_getElem? fun j => ?_
        rw [List.getElem?_set]
        by_cases q : u = j
        · subst q
          simp only [if_true]
          rcases hu u List.mem_cons_self with z | z
          · rw [z]
            split
            · rename_i h
              rw [List.getElem?_eq_getElem h] at z
              cases z
            · rfl
          · rw [z]; simp [lt_of_get z]
        · simp [q]
      rw [e3] at r2
      exact r2
  refine gen vs _ σ (fun u hu => ?_) r
  have : ∀ (us : List Nat), u ∈ us → (wipeE e0 us)[u]? = none ∨ (wipeE e0 us)[u]? = some .no := by
    intro us
    induction us with
    | nil => exact fun h => nomatch h
    | cons w us ih =>
      intro h
      rw [show wipeE e0 (w :: us) = (wipeE e0 us).set w .no from rfl, List.getElem?_set]
      by_cases q : w = u
      · simp only [q, if_true]
        split
        · exact .inr rfl
        · exact .inl rfl
      · simp only [q, if_false]
        rcases List.mem_cons.mp h with z | z
        · exact absurd z.symm q
        · exact ih z
  exact this vs hu
theorem wipeE_idem {vs : List Nat} {e : En} : wipeE (wipeE e vs) vs = wipeE e vs := by
  have gen : ∀ us : List Nat, (∀ u ∈ us, u ∈ vs) → wipeE (wipeE e vs) us = wipeE e vs := by
    intro us
    induction us with
    | nil => exact fun _ => rfl
    | cons u us ih =>
      intro hu
      rw [show wipeE (wipeE e vs) (u :: us) = (wipeE (wipeE e vs) us).set u .no from rfl, ih fun w hw => hu w (List.mem_cons_of_mem _ hw)]
      have hm : u ∈ vs := hu u List.mem_cons_self
      have key : ∀ (ws : List Nat), u ∈ ws → (wipeE e ws).set u .no = wipeE e ws := by
        intro ws
        induction ws with
        | nil => exact fun h => nomatch h
        | cons w ws ih2 =>
          intro h
          rw [show wipeE e (w :: ws) = (wipeE e ws).set w .no from rfl]
          by_cases q : w = u
          · rw [q, List.set_set]
          · rcases List.mem_cons.mp h with z | z
            · exact absurd z.symm q
            · rw [List.set_comm _ _ q, ih2 z]
      exact key vs hm
  exact gen vs fun u h => h
/-! ### [elt for target in iter if ..] -/
abbrev Wf : WX := fun _ _ _ _ => False
def HTs (X : Cx) (cl : Cl) (Wo : WX) (ifs : List Expr) (d : En → Rs Bool) : Prop := PTs X ifs (rdT (Cx.wd X cl) Wo d)
def dYes : En → Rs Bool := fun e => .ok true e
theorem PTs.imp {ifs : List Expr} {t t' : TT} (h : PTs X ifs t) (k : ∀ σ H Q, t' σ H Q → t σ H Q) : PTs X ifs t' := ⟨fun pins s σ H Q I q => h.run pins s σ H Q I (k σ H Q q)⟩
theorem hts_nil : HTs X cl Wo [] dYes := PTs.imp pts_nil fun σ H Q h => rdT_ok h
theorem hts_one {c : Expr} {d} (h : HT X cl Wo c d) : HTs X cl Wo [c] d := pts_one h
def lcL (vs : List Nat) (t : Tg) (c : En → Rs Bool) (el : En → Rs O) : List D → List O → En → Rs O
  | [], acc, e => .ok (.lst acc) e
  | d :: ds, acc, e => match t (.d d) e with
    | none => .bad
    | some e1 => match c e1 with
      | .ok true e2 => match el e2 with
        | .ok o e3 => if acc.length < sizeLine then lcL vs t c el ds (acc ++ [o]) (wipeE e3 vs) else .bad
        | _ => .bad
      | .ok false e2 => lcL vs t c el ds acc (wipeE e2 vs)
      | _ => .bad
def dLc (it : En → Rs (List D)) (vs : List Nat) (t : Tg) (c : En → Rs Bool) (el : En → Rs O) : En → Rs O := fun e => (it e).bind fun ds e1 => lcL vs t c el ds [] (wipeE e1 vs)
/-- an item put behind the others -/
theorem RS.app {c : List O} {a : Addr} {o : O} {v : V} (r : RS W Z F P e ((o, v) :: (.lst c, .ref a) :: T) σ H) : ∃ us, H a = some (.lst us) ∧ us.length = c.length ∧ Stp Z F H Z F (upd H a (.lst (us ++ [v]))) ∧ RS W Z F P e ((.lst (c ++ [o]), .ref a) :: T) σ (upd H a (.lst (us ++ [v]))) := by
  have r' : RS W Z F P e (([(.lst c, .ref a), (o, v)] : Ts) ++ T) σ H := r.perm (List.Perm.swap _ _ _)
  obtain ⟨f, ⟨a', us, f', ev, hh, _, hc⟩, _⟩ := r.pop.top
  cases ev
  refine ⟨us, hh, hc.len.symm, ?_⟩
  refine RS.write (C' := [(.lst (c ++ [o]), .ref a)]) (o := .lst (us ++ [v])) r' trivial (fun fC hC => ?_) (fun kp fC hC nd => ?_)
  · obtain ⟨v', rr, f1, f2, ev, ef, ⟨a', us', f3, ev', _, e3, _⟩, _⟩ := hC
    cases ev
    cases ev'
    rw [ef, e3]
    exact List.mem_append_left _ List.mem_cons_self
  · obtain ⟨v', rr, f1, f2, ev, ef, ⟨a', us', f3, ev', hh', e3, hcs⟩, ho⟩ := hC
    cases ev
    cases ev'
    rw [hh] at hh'
    cases hh'
    have ho' := ros_one ho
    subst ef e3
    have nd1 := List.nodup_append.mp nd
    have nd3 := List.nodup_cons.mp nd1.1
    have na : ∀ b ∈ f3, b ≠ a := fun b hb q => nd3.1 (by rw [← q]; exact hb)
    have nb : ∀ b ∈ f2, b ≠ a := fun b hb q => nd1.2.2 a List.mem_cons_self b hb q.symm
    refine ⟨a :: (f3 ++ f2), ⟨_, _, a :: (f3 ++ f2), [], rfl, (List.append_nil _).symm, ⟨a, us ++ [v], f3 ++ f2, rfl, upd_same, rfl, ROs.append (hcs.keep kp _ _ _ fun b hb u hu => by rw [upd_ne (na b hb)]; exact hu) (ROs.one (ho'.keep kp _ _ _ fun b hb u hu => by rw [upd_ne (nb b hb)]; exact hu))⟩, rfl, rfl⟩, nd, fun b hb => hb⟩
theorem RS.elen (r : RS W Z F P e T σ H) : σ.length = e.length := by
  obtain ⟨⟨fe, ft, h1, _⟩, _⟩ := r
  rw [← h1.len, List.length_map]
theorem rdLc {it : En → Rs (List D)} {vs : List Nat} {t : Tg} {c : En → Rs Bool} {el : En → Rs O} (h : rdE W Wo (dLc it vs t c el) σ H Q) :
    tLc (rdI W Wo it) (rdG W vs t) (rdT W Wf c) (rdE W Wf el) vs σ H Q := by
  obtain ⟨Z, F, P, e, T, r0, k⟩ := h
  refine ⟨Z, F, P, e, T, r0, ?_⟩
  unfold dLc at k
  cases qi : it e with
  | bad => rw [qi] at k; exact k
  | exc c ps e1 => rw [qi] at k; exact k
  | ok ds e1 =>
    rw [qi] at k
    simp only [Rs.bind_ok] at k
    intro Z1 F1 H1 J T2 s1 r1 hJ D hD
    have hlen : σ.length = e1.length := r1.elen
    have r2 : RS W Z1 (fun a => F1 a ∨ a = D) P e1 (T2 ++ ((.lst [], .ref D) :: T)) σ (upd H1 D (.lst [])) := by
      have := r1.newL (ds := []) (vs := []) rfl hD
      exact this.perm List.perm_middle.symm
    refine ⟨fun i m H => i + m = ds.length ∧ ∃ Z F e acc, e.length = σ.length ∧ wipeE e vs = e ∧ RS W Z F P e (T2 ++ ((.lst acc, .ref D) :: T)) (L2.wipe σ vs) H ∧ PostE W Wo Z F P T σ H Q (lcL vs t c el (ds.drop i) acc e), ⟨ds.length, Nat.zero_add _, Z1, _, wipeE e1 vs, [], by rw [wipeE_len, hlen], wipeE_idem, r2.wipe vs, ?_⟩, ?_⟩
    · have s2 : Stp Z F H Z1 (fun a => F1 a ∨ a = D) (upd H1 D (.lst [])) := s1.trans (Stp.allocF hD)
      cases q : lcL vs t c el ds [] (wipeE e1 vs) with
      | bad => rw [q] at k; exact k.elim
      | exc c ps e' => rw [List.drop_zero, q]; rw [q] at k; exact XOk.step s2 k
      | ok o e' => rw [List.drop_zero, q]; rw [q] at k; exact fun v Z' F' H' s3 r3 => k v Z' F' H' (s2.trans s3) r3
    · rintro i m H ⟨him, Z, F, e, acc, hel, hwe, r, k⟩
      obtain ⟨hgo, hstop⟩ := hJ i Z F P e ((.lst acc, .ref D) :: T) (L2.wipe σ vs) H r
      by_cases hi : i < ds.length
      · right
        have hd : ds[i]? = some ds[i] := List.getElem?_eq_getElem hi
        rw [List.drop_eq_getElem_cons hi] at k
        unfold lcL at k
        refine ⟨(hgo _ hd).1, fun H' => i + 1 + (m - 1) = ds.length ∧ ∃ Z F e acc, e.length = σ.length ∧ wipeE e vs = e ∧ RS W Z F P e (T2 ++ ((.lst acc, .ref D) :: T)) (L2.wipe σ vs) H' ∧ PostE W Wo Z F P T σ H' Q (lcL vs t c el (ds.drop (i + 1)) acc e), fun H' h => ⟨m - 1, by omega, h⟩, fun x H' hy => ?_⟩
        obtain ⟨Z2, F2, s2, r2⟩ := (hgo _ hd).2 x H' hy
        refine ⟨Z2, F2, P, e, T2 ++ ((.lst acc, .ref D) :: T), .d ds[i], r2, ?_⟩
        cases qt : t (.d ds[i]) e with
        | none => rw [qt] at k; exact k.elim
        | some e2 =>
          rw [qt] at k
          simp only at k ⊢
          intro σ3 Z3 F3 H3 k3 s3 r3
          have hw : L2.wipe σ3 vs = L2.wipe σ vs := (wipe_kps k3).trans (by
            have : ∀ us : List Nat, (∀ u ∈ us, u ∈ vs) → L2.wipe (L2.wipe σ vs) us = L2.wipe σ vs := by
              intro us
              induction us with
              | nil => exact fun _ => rfl
              | cons u us ih =>
                intro hu
                rw [show L2.wipe (L2.wipe σ vs) (u :: us) = (L2.wipe (L2.wipe σ vs) us).set u none from rfl, ih fun w hw => hu w (List.mem_cons_of_mem _ hw)]
                have key : ∀ (ws : List Nat), u ∈ ws → (L2.wipe σ ws).set u none = L2.wipe σ ws := by
                  intro ws
                  induction ws with
                  | nil => exact fun h => nomatch h
                  | cons w ws ih2 =>
                    intro h
                    rw [show L2.wipe σ (w :: ws) = (L2.wipe σ ws).set w none from rfl]
                    by_cases q : w = u
                    · rw [q, List.set_set]
                    · rcases List.mem_cons.mp h with z | z
                      · exact absurd z.symm q
                      · rw [List.set_comm _ _ q, ih2 z]
                exact key vs (hu u List.mem_cons_self)
            exact this vs fun u h => h)
          have hσ3 : σ3.length = σ.length := by rw [k3.1, wipe_length]
          refine ⟨hw, Z3, F3, P, e2, T2 ++ ((.lst acc, .ref D) :: T), r3, ?_⟩
          cases qc : c e2 with
          | bad => rw [qc] at k; exact k.elim
          | exc c ps e' => rw [qc] at k; exact k.elim
          | ok b e3 =>
            rw [qc] at k
            intro Z4 F4 H4 s4 r4
            cases b with
            | false =>
              refine iteF ?_
              simp only at k
              refine ⟨by omega, Z4, F4, wipeE e3 vs, acc, by rw [wipeE_len, ← r4.elen, hσ3], wipeE_idem, ?_, ?_⟩
              · rw [← hw]; exact r4.wipe vs
              · have s5 := (s2.trans s3).trans s4
                cases q : lcL vs t c el (ds.drop (i + 1)) acc (wipeE e3 vs) with
                | bad => rw [q] at k; exact k.elim
                | exc c ps e' => rw [q] at k; exact XOk.step s5 k
                | ok o e' => rw [q] at k; exact fun v Z' F' H' s3 r3 => k v Z' F' H' (s5.trans s3) r3
            | true =>
              refine iteT ⟨Z4, F4, P, e3, T2 ++ ((.lst acc, .ref D) :: T), r4, ?_⟩
              simp only at k
              cases qe : el e3 with
              | bad => rw [qe] at k; exact k.elim
              | exc c ps e' => rw [qe] at k; exact k.elim
              | ok o e4 =>
                rw [qe] at k
                simp only at k
                intro y Z5 F5 H5 s5 r5
                split at k
                · rename_i hz
                  have r6 : RS W Z5 F5 P e4 ((o, y) :: (.lst acc, .ref D) :: (T2 ++ T)) σ3 H5 := r5.perm (List.Perm.cons _ List.perm_middle)
                  obtain ⟨us, hh, hlu, s6, r7⟩ := r6.app
                  refine ⟨us, hh, by rw [hlu]; exact hz, by omega, Z5, F5, wipeE e4 vs, acc ++ [o], by rw [wipeE_len, ← r5.elen, hσ3], wipeE_idem, ?_, ?_⟩
                  · rw [← hw]
                    exact (r7.perm (T' := T2 ++ ((.lst (acc ++ [o]), .ref D) :: T)) List.perm_middle.symm).wipe vs
                  · have s7 := (((s2.trans s3).trans s4).trans s5).trans s6
                    cases q : lcL vs t c el (ds.drop (i + 1)) (acc ++ [o]) (wipeE e4 vs) with
                    | bad => rw [q] at k; exact k.elim
                    | exc c ps e' => rw [q] at k; exact XOk.step s7 k
                    | ok o e' => rw [q] at k; exact fun v Z' F' H' s3 r3 => k v Z' F' H' (s7.trans s3) r3
                · exact k.elim
      · left
        have hge : ds.length ≤ i := Nat.le_of_not_lt hi
        rw [List.drop_of_length_le hge] at k
        refine ⟨hstop (by omega), k (.ref D) Z F H .refl ?_⟩
        have r1 := r.appPop
        rw [← hwe] at r1 ⊢
        exact r1.unwipe hel.symm
theorem he_lc {elt tg iter : Expr} {ifs : List Expr} {scope : Scope} {own : List (Str × Nat)} {di} {t : Tg} {dc} {de}
    (h : PE X (.ListComp elt [⟨tg, iter, ifs, 0⟩] scope pos) (tLc (rdI (Cx.wd X cl) Wo di) (rdG (Cx.wd X cl) (own.map (·.2)) t) (rdT (Cx.wd X cl) Wf dc) (rdE (Cx.wd X cl) Wf de) (own.map (·.2)))) :
    HE X cl Wo (.ListComp elt [⟨tg, iter, ifs, 0⟩] scope pos) (dLc di (own.map (·.2)) t dc de) := PE.imp h fun σ H Q h => rdLc h
/-- y = [..] -/
theorem hs_setLc {i : Nat} {st : Stmt} {own : List (Str × Nat)} {di} {t : Tg} {dc} {de}
    (h : PS X st (tAsg (tLc (rdI (Cx.wd X cl) Wo di) (rdG (Cx.wd X cl) (own.map (·.2)) t) (rdT (Cx.wd X cl) Wf dc) (rdE (Cx.wd X cl) Wf de) (own.map (·.2))) (L2.gName i))) :
    HS X cl Wo st (sAsg (dLc di (own.map (·.2)) t dc de) (tName i)) :=
  PS.imp h fun D σ H h => rdLc (rdE_out h fun Z F P e T o v H1 r k => by
    split at k
    · rename_i e2 q; exact k _ Z F H1 .refl (r.store q)
    · exact k.elim)
/-- a slot that a comprehension's own name shares is laid aside meanwhile -/
def dSave (i : Nat) (d : En → Rs O) : En → Rs O := fun e => match e[i]? with
  | some s => match s.cont with
    | some o => (d (e.set i s.lent)).bind fun r e1 => match e1[i]? with
      | some s1 => match s1.cont with
        | none => .ok r (e1.set i (s1.put o))
        | some _ => .bad
      | none => .bad
    | none => d e
  | none => d e
theorem rd_save {i : Nat} {d : En → Rs O} (h : rdE W Wo (dSave i d) σ H Q) : rdE W Wo d σ H Q := by
  obtain ⟨Z, F, P, e, T, r0, k⟩ := h
  unfold dSave at k
  cases q : e[i]? with
  | none => rw [q] at k; exact ⟨Z, F, P, e, T, r0, k⟩
  | some s =>
    rw [q] at k
    simp only at k
    cases q2 : s.cont with
    | none => rw [q2] at k; exact ⟨Z, F, P, e, T, r0, k⟩
    | some o =>
      rw [q2] at k
      simp only at k
      obtain ⟨v, hv, r1⟩ := r0.lend q q2
      refine ⟨Z, F, P, e.set i s.lent, (o, v) :: T, r1, ?_⟩
      cases qd : d (e.set i s.lent) with
      | bad => rw [qd] at k; exact k
      | exc c ps e1 => rw [qd] at k; exact XOk.popped k
      | ok r e1 =>
        rw [qd] at k
        simp only [Rs.bind_ok] at k
        intro w Z1 F1 H1 s1 r2
        cases q3 : e1[i]? with
        | none => rw [q3] at k; exact k.elim
        | some s1' =>
          rw [q3] at k
          simp only at k
          cases q4 : s1'.cont with
          | some _ => rw [q4] at k; exact k.elim
          | none =>
            rw [q4] at k
            exact k w Z1 F1 H1 s1 (RS.back (r2.perm (List.Perm.swap _ _ _)) q3 q4 hv)
theorem he_save {i : Nat} {ex : Expr} {d : En → Rs O} (h : HE X cl Wo ex d) : HE X cl Wo ex (dSave i d) := PE.imp h fun σ H Q h => rd_save h
end
end MX

/-! MXb: dicts, slices, isinstance. -/
namespace MX
open PySem L2
section
variable {X : Cx} {cl : Cl} {Wo : WX} {pos : Pos}
variable {W : Wd} {Z F Z' F' : Addr → Prop} {P P' : Nat → V} {e : En} {T : Ts} {σ : L2.St} {H H' : Hp} {Q : VK}
/-! ### dicts -/
def keyD : D → Option Key
  | .int i => some (.inl i)
  | .str s => some (.inr s)
  | _ => none
def keyO : O → Option Key
  | .d x => keyD x
  | _ => none
theorem See.key {o : O} {v : V} {k : Key} (h : See W H Z o v) (q : keyO o = some k) : v = kV k := by
  cases o with
  | d x =>
    cases x with
    | int i => cases q; exact h.int
    | str s => cases q; exact h.str
    | _ => cases q
  | _ => cases q
def getK {α : Type} : List Key → List α → Key → Option α
  | k :: ks, x :: xs, q => if k = q then some x else getK ks xs q
  | _, _, _ => none
theorem valV_cons {p : Key × V} {kvs : List (Key × V)} {k : Key} : valV (p :: kvs) k = if p.1 = k then some p.2 else valV kvs k := by
  unfold valV
  rw [List.find?_cons]
  by_cases h : p.1 = k
  · simp [h]
  · simp [h]
theorem getK_ros : ∀ {kvs : List (Key × V)} {os : List O} {f : List Addr} {k : Key}, ROs W H Z os (kvs.map (·.2)) f → match getK (kvs.map (·.1)) os k with
    | some o => ∃ v, valV kvs k = some v ∧ See W H Z o v
    | none => valV kvs k = none
  | [], [], f, k, _ => rfl
  | [], o :: os, f, k, ⟨v, r, f1, f2, e, _⟩ => by cases e
  | p :: kvs, [], f, k, ⟨e, _⟩ => by cases e
  | p :: kvs, o :: os, f, k, ⟨v, r, f1, f2, e, ef, h1, h2⟩ => by
    have e1 : p.2 = v := (List.cons.inj e).1
    have e2 := (List.cons.inj e).2
    subst e1 e2
    rw [valV_cons]
    show match (if p.1 = k then some o else getK (kvs.map (·.1)) os k) with
      | some o => ∃ v, (if p.1 = k then some p.2 else valV kvs k) = some v ∧ See W H Z o v
      | none => (if p.1 = k then some p.2 else valV kvs k) = none
    by_cases h : p.1 = k
    · rw [if_pos h, if_pos h]; exact ⟨p.2, rfl, f1, h1⟩
    · rw [if_neg h, if_neg h]; exact getK_ros h2
/-- a dict's keys and items -/
def O.dk : O → Option (List Key × List O)
  | .dic ks xs => some (ks, xs)
  | .d (.dic ks xs) => some (ks, xs.map .d)
  | _ => none
theorem See.dict {o : O} {v : V} {ks : List Key} {xs : List O} (h : See W H Z o v) (q : o.dk = some (ks, xs)) : ∃ (a : Addr) (kvs : List (Key × V)) (f : List Addr), v = .ref a ∧ Rd H a (.dK kvs) ∧ kvs.map (·.1) = ks ∧ ROs W H Z xs (kvs.map (·.2)) f := by
  obtain ⟨f, h⟩ := h
  cases o with
  | dic ks' xs' =>
    cases q
    obtain ⟨a, kvs, f', e, hh, e1, nd, ef, r⟩ := h
    exact ⟨a, kvs, f', e, .inl hh, e1, r⟩
  | d x =>
    cases x with
    | dic ks' xs' =>
      cases q
      obtain ⟨⟨a, kvs, e, z, hh, e1, nd, r⟩, _⟩ := h
      exact ⟨a, kvs, [], e, hh, e1, r.ros⟩
    | _ => cases q
  | _ => cases q
theorem DGet.rd {a : Addr} {kvs : List (Key × V)} {k : Key} (h : Rd H a (.dK kvs)) : DGet H a (kV k) (valV kvs k) := by
  unfold DGet
  exact .inl ⟨kvs, k, h, rfl, rfl⟩
def fDget : O → O → Option O := fun a b => match a.dk, keyO b with
  | some (ks, xs), some k => match getK ks xs k with
    | some (.d x) => some (.d x)
    | _ => none
  | _, _ => none
theorem bDget : BinOk W fDget (fun x y H Q => ∃ a v, x = .ref a ∧ DGet H a y (some v) ∧ Q v H) := by
  intro Z F P e T σ H a b z v u Q hf sa sb rs k
  unfold fDget at hf
  split at hf
  · rename_i ks xs kk hx hk
    split at hf
    · rename_i x hg; cases hf
      obtain ⟨p, kvs, f, ev, hr, ek, ro⟩ := sa.dict hx
      have := getK_ros (k := kk) ro
      rw [ek, hg] at this
      obtain ⟨w, hw, sw⟩ := this
      refine ⟨p, w, ev, ?_, k w Z F H .refl (rs.push sw.d)⟩
      rw [sb.key hk, ← hw]
      exact DGet.rd hr
    · cases hf
  · cases hf
theorem he_dget {a b : Expr} {da db : En → Rs Ar} (hu : X.A.units + 1 < cLine) (ha : HV X cl Wo a da) (hb : HV X cl Wo b db) (hs : NoSl b) : HE X cl Wo (.Subscript a b pos) (dBin fDget da db) :=
  PE.imp (pe_dget hu ha hb hs) fun σ H Q h => rd2 bDget h
def fDin : O → O → Option O := fun b a => match a.dk, keyO b with
  | some (ks, xs), some k => some (.d (.bl (getK ks xs k).isSome))
  | _, _ => none
def fDnin : O → O → Option O := fun b a => match a.dk, keyO b with
  | some (ks, xs), some k => some (.d (.bl (!(getK ks xs k).isSome)))
  | _, _ => none
theorem dgetAny {p : Addr} {kvs : List (Key × V)} {xs : List O} {f : List Addr} {k : Key} {u : V} (hr : Rd H p (.dK kvs)) (ro : ROs W H Z xs (kvs.map (·.2)) f) (hu : u = kV k) : ∃ o, DGet H p u o ∧ o.isSome = (getK (kvs.map (·.1)) xs k).isSome := by
  have := getK_ros (k := k) ro
  refine ⟨valV kvs k, by rw [hu]; exact DGet.rd hr, ?_⟩
  cases q : getK (kvs.map (·.1)) xs k with
  | none => rw [q] at this; rw [show valV kvs k = none from this]; rfl
  | some o =>
    rw [q] at this
    obtain ⟨w, hw, _⟩ := this
    rw [hw]; rfl
theorem bDin : BinOk W fDin (fun y x H Q => ∃ a o, x = .ref a ∧ DGet H a y o ∧ Q (.bl o.isSome) H) := by
  intro Z F P e T σ H b a z u v Q hf sb sa rs k
  unfold fDin at hf
  split at hf
  · rename_i ks xs kk hx hk; cases hf
    obtain ⟨p, kvs, f, ev, hr, ek, ro⟩ := sa.dict hx
    obtain ⟨o, ho, hs⟩ := dgetAny hr ro (sb.key hk)
    refine ⟨p, o, ev, ho, ?_⟩
    rw [hs, ek]
    exact done_leaf (x := .bl (getK ks xs kk).isSome) rs (fun _ _ => rfl) k
  · cases hf
theorem bDnin : BinOk W fDnin (fun y x H Q => ∃ a o, x = .ref a ∧ DGet H a y o ∧ Q (.bl (!o.isSome)) H) := by
  intro Z F P e T σ H b a z u v Q hf sb sa rs k
  unfold fDnin at hf
  split at hf
  · rename_i ks xs kk hx hk; cases hf
    obtain ⟨p, kvs, f, ev, hr, ek, ro⟩ := sa.dict hx
    obtain ⟨o, ho, hs⟩ := dgetAny hr ro (sb.key hk)
    refine ⟨p, o, ev, ho, ?_⟩
    rw [hs, ek]
    exact done_leaf (x := .bl (!(getK ks xs kk).isSome)) rs (fun _ _ => rfl) k
  · cases hf
theorem he_din {a b : Expr} {da db : En → Rs Ar} (hu : X.A.units + 1 < cLine) (hb : HV X cl Wo b db) (ha : HV X cl Wo a da) (hm : behindInMarks .In a = false := by rfl) : HE X cl Wo (.Compare b [.In] [a] pos) (dBin fDin db da) :=
  PE.imp (pe_cmp (pc_din hu hb ha) hm) fun σ H Q h => rd2 bDin h
theorem ht_din {a b : Expr} {da db : En → Rs Ar} (hu : X.A.units + 1 < cLine) (hb : HV X cl Wo b db) (ha : HV X cl Wo a da) (hm : behindInMarks .In a = false := by rfl) : HT X cl Wo (.Compare b [.In] [a] pos) (dTst (dBin fDin db da)) :=
  PT.imp (pt_cmp (pc_din hu hb ha) hm) fun σ H Q h => rd2 bDin (rdT_of h)
theorem he_dnin {a b : Expr} {da db : En → Rs Ar} (hu : X.A.units + 1 < cLine) (hb : HV X cl Wo b db) (ha : HV X cl Wo a da) (hm : behindInMarks .NotIn a = false := by rfl) : HE X cl Wo (.Compare b [.NotIn] [a] pos) (dBin fDnin db da) :=
  PE.imp (pe_cmp (pc_dnotin hu hb ha) hm) fun σ H Q h => rd2 bDnin h
theorem ht_dnin {a b : Expr} {da db : En → Rs Ar} (hu : X.A.units + 1 < cLine) (hb : HV X cl Wo b db) (ha : HV X cl Wo a da) (hm : behindInMarks .NotIn a = false := by rfl) : HT X cl Wo (.Compare b [.NotIn] [a] pos) (dTst (dBin fDnin db da)) :=
  PT.imp (pt_cmp (pc_dnotin hu hb ha) hm) fun σ H Q h => rd2 bDnin (rdT_of h)
/-- d[k] = v -/
def putKs : List Key → List O → Key → O → List Key × List O
  | k :: ks, x :: xs, q, o => if k = q then (k :: ks, o :: xs) else (k :: (putKs ks xs q o).1, x :: (putKs ks xs q o).2)
  | _, _, q, o => ([q], [o])
theorem putKs_mem : ∀ {ks : List Key} {xs : List O} {q : Key} {o : O} {k : Key}, k ∈ (putKs ks xs q o).1 → k ∈ ks ∨ k = q
  | [], xs, q, o, k, h => by
    have : k ∈ [q] := h
    exact .inr (List.mem_singleton.mp this)
  | k0 :: ks, [], q, o, k, h => by
    have : k ∈ [q] := h
    exact .inr (List.mem_singleton.mp this)
  | k0 :: ks, x :: xs, q, o, k, h => by
    unfold putKs at h
    split at h
    · exact .inl h
    · rcases List.mem_cons.mp h with z | z
      · exact .inl (by rw [z]; exact List.mem_cons_self)
      · exact (putKs_mem z).imp (List.mem_cons_of_mem _) id
theorem putK_rel : ∀ {kvs : List (Key × V)} {os : List O} {f : List Addr} {k : Key} {o : O} {v : V} {g : List Addr}, (kvs.map (·.1)).Nodup → ROs W H Z os (kvs.map (·.2)) f → RO W H Z o v g →
    (putK kvs k v).map (·.1) = (putKs (kvs.map (·.1)) os k o).1 ∧ (putKs (kvs.map (·.1)) os k o).1.Nodup ∧ ∃ f1 f2 f3, f = f1 ++ f2 ++ f3 ∧ ROs W H Z (putKs (kvs.map (·.1)) os k o).2 ((putK kvs k v).map (·.2)) (f1 ++ g ++ f3)
  | [], [], f, k, o, v, g, _, ⟨_, ef⟩, h => by
    subst ef
    refine ⟨rfl, List.nodup_cons.mpr ⟨List.not_mem_nil, List.nodup_nil⟩, [], [], [], rfl, v, [], g, [], rfl, by simp, h, rfl, rfl⟩
  | [], o' :: os, f, k, o, v, g, _, ⟨_, _, _, _, e, _⟩, h => by cases e
  | p :: kvs, [], f, k, o, v, g, _, ⟨e, _⟩, h => by cases e
  | p :: kvs, o' :: os, f, k, o, v, g, nd, ⟨v', r, f1, f2, e, ef, h1, h2⟩, h => by
    have e1 : p.2 = v' := (List.cons.inj e).1
    have e2 := (List.cons.inj e).2
    subst e1 e2 ef
    have nd' := List.nodup_cons.mp nd
    by_cases q : p.1 = k
    · have hn : ∀ kv ∈ kvs, ¬ kv.1 = k := fun kv hk z => nd'.1 (by show p.1 ∈ _; rw [q, ← z]; exact List.mem_map_of_mem hk)
      have em : kvs.map (fun kv => if kv.1 = k then (kv.1, v) else kv) = kvs := by
        conv => rhs; rw [← List.map_id kvs]
        exact List.map_congr_left fun kv hk => by rw [if_neg (hn kv hk)]; rfl
      have ep : putK (p :: kvs) k v = (p.1, v) :: kvs := by
        unfold putK
        rw [if_pos (by rw [List.any_cons]; simp [q]), List.map_cons, if_pos q, em]
      have es : putKs ((p :: kvs).map (·.1)) (o' :: os) k o = (p.1 :: kvs.map (·.1), o :: os) := by
        show (if p.1 = k then _ else _) = _
        rw [if_pos q]
      rw [ep, es]
      exact ⟨rfl, nd, [], f1, f2, rfl, v, _, g, f2, rfl, by simp, h, h2⟩
    · obtain ⟨i1, i2, g1, g2, g3, eg, ir⟩ := putK_rel (k := k) nd'.2 h2 h
      have ep : putK (p :: kvs) k v = p :: putK kvs k v := by
        unfold putK
        rw [List.any_cons]
        simp only [q, decide_false, Bool.false_or, List.map_cons, if_false]
        split
        · rfl
        · rfl
      have es : putKs ((p :: kvs).map (·.1)) (o' :: os) k o = (p.1 :: (putKs (kvs.map (·.1)) os k o).1, o' :: (putKs (kvs.map (·.1)) os k o).2) := by
        show (if p.1 = k then _ else _) = _
        rw [if_neg q]
      rw [ep, es]
      refine ⟨by rw [List.map_cons, i1], List.nodup_cons.mpr ⟨fun z => ?_, i2⟩, f1 ++ g1, g2, g3, by rw [eg]; simp, p.2, _, f1, g1 ++ g ++ g3, rfl, by simp, h1, ir⟩
      rcases putKs_mem z with z | z
      · exact nd'.1 z
      · exact q z
theorem RS.dput {ks : List Key} {xs : List O} {a : Addr} {k : Key} {o : O} {v : V} (r : RS W Z F P e ((.dic ks xs, .ref a) :: (o, v) :: T) σ H) : ∃ kvs : List (Key × V), H a = some (.dK kvs) ∧ kvs.map (·.1) = ks ∧
    Stp Z F H Z F (upd H a (.dK (putK kvs k v))) ∧ RS W Z F P e ((.dic (putKs ks xs k o).1 (putKs ks xs k o).2, .ref a) :: T) σ (upd H a (.dK (putK kvs k v))) := by
  obtain ⟨f, ⟨a', kvs, f', ev, hh, e1, ndk, _, hc⟩, _⟩ := r.top
  cases ev
  refine ⟨kvs, hh, e1, ?_⟩
  have r' : RS W Z F P e (([(.dic ks xs, .ref a), (o, v)] : Ts) ++ T) σ H := r
  refine RS.write (C' := [(.dic (putKs ks xs k o).1 (putKs ks xs k o).2, .ref a)]) (o := .dK (putK kvs k v)) r' trivial (fun fC hC => ?_) (fun kp fC hC nd => ?_)
  · obtain ⟨v', rr, f1, f2, ev, ef, ⟨a', us', f3, ev', _, _, _, e3, _⟩, _⟩ := hC
    cases ev
    cases ev'
    rw [ef, e3]
    exact List.mem_append_left _ List.mem_cons_self
  · obtain ⟨v', rr, f1, f2, ev, ef, ⟨a', us', f3, ev', hh', e1', ndk', e3, hcs⟩, ho⟩ := hC
    cases ev
    cases ev'
    rw [hh] at hh'
    cases hh'
    have ho' := ros_one ho
    subst ef e3 e1
    have nd1 := List.nodup_append.mp nd
    have nd3 := List.nodup_cons.mp nd1.1
    have na : ∀ b ∈ f3, b ≠ a := fun b hb q => nd3.1 (by rw [← q]; exact hb)
    have nb : ∀ b ∈ f2, b ≠ a := fun b hb q => nd1.2.2 a List.mem_cons_self b hb q.symm
    obtain ⟨p1, p2, g1, g2, g3, eg, pr⟩ := putK_rel (k := k) ndk' (hcs.keep kp _ _ _ fun b hb u hu => by rw [upd_ne (na b hb)]; exact hu) (ho'.keep kp _ _ _ fun b hb u hu => by rw [upd_ne (nb b hb)]; exact hu)
    subst eg
    have pp : (a :: (g1 ++ g2 ++ g3) ++ f2).Perm (g2 ++ (a :: (g1 ++ f2 ++ g3))) := by
      refine (List.Perm.trans ?_ List.perm_middle.symm)
      refine List.Perm.cons a ?_
      show ((g1 ++ g2 ++ g3) ++ f2).Perm (g2 ++ (g1 ++ f2 ++ g3))
      simp only [List.append_assoc]
      refine (List.perm_append_comm_assoc g1 g2 _).trans ?_
      exact List.Perm.append_left _ (List.Perm.append_left _ List.perm_append_comm)
    have nd4 := pp.nodup nd
    exact ⟨a :: (g1 ++ f2 ++ g3), ROs.one ⟨a, putK kvs k v, _, rfl, upd_same, p1, p2, rfl, pr⟩, nd4.sublist (List.sublist_append_right _ _), fun b hb => pp.mem_iff.mpr (List.mem_append_right _ hb)⟩
def isDic : Option O → Bool
  | some (.dic _ _) => true
  | _ => false
def sDput (i : Nat) (dv : En → Rs O) (dk : En → Rs Ar) : En → Out := fun e => (dv e).out fun o e1 => match isDic (slot e1 i) with
  | false => .bad
  | true => (dk e1).out fun x e2 => match x.get e2, slot e2 i with
    | some ko, some (.dic ks xs) => match keyO ko with
      | some k => if ks.length < sizeLine then .nx (putS e2 i (.dic (putKs ks xs k o).1 (putKs ks xs k o).2)) else .bad
      | none => .bad
    | _, _ => .bad
theorem hs_dput {i : Nat} {st : Stmt} {dv : En → Rs O} {dk : En → Rs Ar} (h : PS X st (sDPut (tVar i) (rdV (Cx.wd X cl) Wo dk) (rdE (Cx.wd X cl) Wo dv))) : HS X cl Wo st (sDput i dv dk) :=
  PS.imp h fun D σ H h => rdE_out h fun Z F P e T o v H1 r k => by
    cases q0 : isDic (slot e i) with
    | false => rw [q0] at k; exact k.elim
    | true =>
      rw [q0] at k
      simp only at k
      have hd : ∃ ks xs, slot e i = some (.dic ks xs) := by
        unfold isDic at q0
        split at q0
        · exact ⟨_, _, by assumption⟩
        · cases q0
      obtain ⟨ks0, xs0, hd⟩ := hd
      obtain ⟨w, fw, hw, hro, _⟩ := slot_get r.pop hd
      obtain ⟨a, kvs0, f0, ew, _⟩ := hro
      subst ew
      refine ⟨.ref a, hw, Z, F, P, e, (o, v) :: T, r, ?_⟩
      cases qk : dk e with
      | bad => rw [qk] at k; exact k.elim
      | exc c ps e1 => rw [qk] at k; exact XOk.popped (k σ)
      | ok x e2 =>
        rw [qk] at k
        simp only [Rs.out] at k
        intro u Z2 F2 H2 s2 r2 a2
        cases g1 : x.get e2 with
        | none => rw [g1] at k; exact k.elim
        | some ko =>
          cases g2 : slot e2 i with
          | none => rw [g1, g2] at k; exact k.elim
          | some c =>
            rw [g1, g2] at k
            cases c with
            | dic ks xs =>
              simp only at k
              cases g3 : keyO ko with
              | none => rw [g3] at k; exact k.elim
              | some kk =>
                rw [g3] at k
                simp only at k
                split at k
                · rename_i hz
                  obtain ⟨su, r3⟩ := see_tmp r2 a2 g1
                  obtain ⟨s, hs, hc⟩ := slot_some g2
                  obtain ⟨w', hw', r4⟩ := r3.lend hs hc
                  rw [hw] at hw'
                  cases hw'
                  obtain ⟨kvs, hh, ek, s5, r5⟩ := r4.dput (k := kk)
                  refine ⟨a, _, rfl, by rw [su.key g3]; exact DPut.k (k := kk) hh (by rw [← ek, List.length_map] at hz; exact hz), ?_⟩
                  have r6 := RS.back r5 (i := i) (s := s.lent) (get_set_self hs) (by cases s <;> rfl) hw
                  rw [set_set, lent_put hc] at r6
                  have e5 : putS e2 i (.dic (putKs ks xs kk o).1 (putKs ks xs kk o).2) = e2.set i (s.put (.dic (putKs ks xs kk o).1 (putKs ks xs kk o).2)) := by unfold putS; rw [modS_eq hs]
                  rw [e5] at k
                  exact k σ Z2 F2 _ (s2.trans s5) r6
                · exact k.elim
            | _ => exact k.elim
/-! ### slices -/
def POpt (W : Wd) (Wo : WX) (Z F : Addr → Prop) (P : Nat → V) (T : Ts) (σ : L2.St) (H : Hp) (Q : Option Int → Hp → Prop) : Rs (Option Int) → Prop
  | .ok o e => ∀ Z' F' H', Stp Z F H Z' F' H' → RS W Z' F' P e T σ H' → Q o H'
  | .exc c ps e => XOk W Wo Z F P T σ H c ps e
  | .bad => False
def rdO (W : Wd) (Wo : WX) (d : En → Rs (Option Int)) : L2.TO := fun σ H Q => ∃ Z F P e T, RS W Z F P e T σ H ∧ POpt W Wo Z F P T σ H Q (d e)
def HO_ (X : Cx) (cl : Cl) (Wo : WX) (o : Option Expr) (d : En → Rs (Option Int)) : Prop := PO X o (rdO (Cx.wd X cl) Wo d)
theorem PO.imp {o : Option Expr} {t t' : L2.TO} (h : PO X o t) (k : ∀ σ H Q, t' σ H Q → t σ H Q) : PO X o t' := ⟨fun pins s σ H Q I q => h.run pins s σ H Q I (k σ H Q q)⟩
def oNone : En → Rs (Option Int) := fun e => .ok none e
def oSome (d : En → Rs Ar) : En → Rs (Option Int) := fun e => (d e).bind fun x e1 => match x.get e1 with
  | some (.d (.int i)) => .ok (some i) e1
  | _ => .bad
theorem ho_none : HO_ X cl Wo none oNone := PO.imp po_none fun σ H Q ⟨Z, F, P, e, T, r, k⟩ => k Z F H .refl r
theorem ho_some {ex : Expr} {d} (h : HV X cl Wo ex d) : HO_ X cl Wo (some ex) (oSome d) :=
  PO.imp (po_some h) fun σ H Q ⟨Z, F, P, e, T, r, k⟩ => by
    refine ⟨Z, F, P, e, T, r, ?_⟩
    unfold oSome at k
    cases q : d e with
    | bad => rw [q] at k; exact k
    | exc c ps e1 => rw [q] at k; exact k
    | ok x e1 =>
      rw [q] at k
      simp only [Rs.bind_ok] at k
      intro v Z1 F1 H1 s1 r1 a1
      split at k
      · rename_i i g
        obtain ⟨sv, r2⟩ := see_tmp r1 a1 g
        exact ⟨i, sv.int, k Z1 F1 H1 s1 r2⟩
      · exact k.elim
def cutD (xs : List D) (lo hi : Option Int) : List D := (xs.drop (HT.sIx xs.length 0 lo)).take (HT.sIx xs.length xs.length hi - HT.sIx xs.length 0 lo)
theorem RDs.drop : ∀ {ds : List D} {vs : List V} (n : Nat), RDs W H Z ds vs → RDs W H Z (ds.drop n) (vs.drop n)
  | ds, vs, 0, h => h
  | [], vs, n + 1, h => by rw [show vs = [] from h]; exact rfl
  | d :: ds, vs, n + 1, ⟨v, r, e, h1, h2⟩ => by rw [e]; exact RDs.drop n h2
theorem RDs.take : ∀ {ds : List D} {vs : List V} (n : Nat), RDs W H Z ds vs → RDs W H Z (ds.take n) (vs.take n)
  | ds, vs, 0, h => rfl
  | [], vs, n + 1, h => by rw [show vs = [] from h]; exact rfl
  | d :: ds, vs, n + 1, ⟨v, r, e, h1, h2⟩ => by rw [e]; exact ⟨v, r.take n, rfl, h1, RDs.take n h2⟩
theorem RDs.cut {ds : List D} {vs : List V} (h : RDs W H Z ds vs) (lo hi : Option Int) : RDs W H Z (cutD ds lo hi) (cutV vs lo hi) := by
  unfold cutD cutV
  rw [h.len]
  exact (h.drop _).take _
def dSl (f : O → Option Int → Option Int → Option O) (d : En → Rs Ar) (lo hi : En → Rs (Option Int)) : En → Rs O := fun e => (d e).bind fun x e1 => (lo e1).bind fun l e2 => (hi e2).bind fun u e3 => match x.get e3 with
  | some a => fin (f a l u) e3
  | none => .bad
def SlOk (W : Wd) (f : O → Option Int → Option Int → Option O) (r : V → Option Int → Option Int → Hp → VK → Prop) : Prop :=
  ∀ Z F P e T σ H a l u z v Q, f a l u = some z → See W H Z a v → RS W Z F P e T σ H → (∀ w Z' F' H', Stp Z F H Z' F' H' → RS W Z' F' P e ((z, w) :: T) σ H' → Q w H') → r v l u H Q
theorem rdSl {f} {r : V → Option Int → Option Int → Hp → VK → Prop} {d lo hi} (hf : SlOk W f r) (h : rdE W Wo (dSl f d lo hi) σ H Q) : tSl r (rdV W Wo d) (rdO W Wo lo) (rdO W Wo hi) σ H Q := by
  obtain ⟨Z, F, P, e, T, r0, k⟩ := h
  refine ⟨Z, F, P, e, T, r0, ?_⟩
  unfold dSl at k
  cases qa : d e with
  | bad => rw [qa] at k; exact k
  | exc c ps e1 => rw [qa] at k; exact k
  | ok x e1 =>
    rw [qa] at k
    simp only [Rs.bind_ok] at k
    intro v Z1 F1 H1 s1 r1 a1
    refine ⟨Z1, F1, P, e1, x.tmp v ++ T, r1, ?_⟩
    cases ql : lo e1 with
    | bad => rw [ql] at k; exact k
    | exc c ps e' => rw [ql] at k; exact XOk.pops (XOk.step s1 k)
    | ok l e2 =>
      rw [ql] at k
      simp only [Rs.bind_ok] at k
      intro Z2 F2 H2 s2 r2
      refine ⟨Z2, F2, P, e2, x.tmp v ++ T, r2, ?_⟩
      cases qh : hi e2 with
      | bad => rw [qh] at k; exact k
      | exc c ps e' => rw [qh] at k; exact XOk.pops (XOk.step (s1.trans s2) k)
      | ok u e3 =>
        rw [qh] at k
        simp only [Rs.bind_ok] at k
        intro Z3 F3 H3 s3 r3
        cases g : x.get e3 with
        | none => rw [g] at k; exact k.elim
        | some a =>
          rw [g] at k
          obtain ⟨sa, r4⟩ := see_tmp r3 a1 g
          cases qz : f a l u with
          | none => simp only [fin, qz] at k; exact k.elim
          | some z =>
            simp only [fin, qz] at k
            exact hf Z3 F3 P e3 T σ H3 a l u z v Q qz sa r4 fun w Z' F' H' s4 r5 => k w Z' F' H' (((s1.trans s2).trans s3).trans s4) r5
theorem he_slice {ex : Expr} {lo hi : Option Expr} {p2 : Pos} {f r} {d dl dh} (hr : SlR X r) (hf : SlOk (Cx.wd X cl) f r) (he : HV X cl Wo ex d) (hl : HO_ X cl Wo lo dl) (hu : HO_ X cl Wo hi dh) : HE X cl Wo (.Subscript ex (.Slice lo hi none p2) pos) (dSl f d dl dh) :=
  PE.imp (pe_slice hr he hl hu) fun σ H Q h => rdSl hf h
def fSlL : O → Option Int → Option Int → Option O := fun a l u => a.ls.map fun ds => .lst ((cutD ds l u).map .d)
theorem lSlL : SlOk W fSlL (rSlL W.K) := by
  intro Z F P e T σ H a l u z v Q hf sa rs k
  unfold fSlL at hf
  cases q : a.ls with
  | none => rw [q] at hf; cases hf
  | some ds =>
    rw [q] at hf; cases hf
    obtain ⟨p, vs, ev, hq, r⟩ := sa.list q
    exact ⟨p, vs, ev, hq, fun c hc => k _ _ _ _ (Stp.allocF hc) (rs.newL (r.cut l u) hc)⟩
def fSlT : O → Option Int → Option Int → Option O := fun a l u => a.tp.map fun ds => .d (.tup (cutD ds l u))
theorem cutD_all {ds : List D} {l u : Option Int} (h1 : HT.sIx ds.length 0 l = 0) (h2 : HT.sIx ds.length ds.length u = ds.length) : cutD ds l u = ds := by
  unfold cutD
  rw [h1, h2, List.drop_zero, Nat.sub_zero, List.take_length]
theorem lSlT : SlOk W fSlT (rSlN W.K) := by
  intro Z F P e T σ H a l u z v Q hf sa rs k
  unfold fSlT at hf
  cases q : a.tp with
  | none => rw [q] at hf; cases hf
  | some ds =>
    rw [q] at hf; cases hf
    obtain ⟨p, vs, ev, hq, r⟩ := sa.tuple q
    have d1 : RD W H Z (.tup ds) v := by
      cases a with
      | d x =>
        cases x with
        | tup es =>
          have : es = ds := Option.some.inj q
          subst this; exact sa.d
        | _ => cases q
      | _ => cases q
    refine ⟨p, vs, ev, hq, fun hc => ?_, fun _ c o hc ho => k _ _ _ _ (Stp.alloc hc) (rs.newT (r.cut l u) hc ho)⟩
    rw [← r.len] at hc
    have := cutD_all hc.1 hc.2
    simp only [this] at k
    exact k _ _ _ _ .refl (rs.push (by rw [← ev]; exact d1))
/-! ### isinstance -/
/-- the built-in type of a value -/
def D.tyn : D → Option String
  | .non => some "NoneType"
  | .bl _ => some "bool"
  | .int _ => some "int"
  | .str _ => some "str"
  | .tup _ => some "tuple"
  | .lst _ => some "list"
  | .dic _ _ => some "dict"
  | _ => none
theorem SqT.tyx {K : PySem.W.Frag} {a : Addr} {xs : List V} (h : SqT K H a xs) : TyX K H (.ref a) (.type "tuple") := by
  rcases h with (h | ⟨o, h⟩) | ⟨o, its, n, h, hc, _⟩
  · exact .base (.tup h)
  · exact .fTuple h
  · exact .kTuple h hc
theorem SqL.tyx {K : PySem.W.Frag} {a : Addr} {xs : List V} (h : SqL K H a xs) : TyX K H (.ref a) (.type "list") := by
  rcases h with (h | ⟨o, h⟩) | ⟨o, its, n, h, hc, _⟩
  · exact .base (.lst h)
  · exact .base (.frz h)
  · exact .kList h hc
theorem RD.tyx {d : D} {v : V} {n : String} (h : RD W H Z d v) (q : d.tyn = some n) : TyX W.K H v (.type n) := by
  cases d with
  | non => cases q; rw [show v = .non from h]; exact .base .non
  | bl b => cases q; rw [show v = .bl b from h]; exact .base (.bl b)
  | int b => cases q; rw [show v = .int b from h]; exact .base (.int b)
  | str b => cases q; rw [show v = .str b from h]; exact .base (.str b)
  | tup xs => cases q; obtain ⟨a, vs, rfl, hh, _⟩ := h; exact SqT.tyx hh.sq
  | lst xs => cases q; obtain ⟨a, vs, rfl, hh, _⟩ := h; exact SqL.tyx (.inl hh.2)
  | dic ks xs =>
    cases q
    obtain ⟨a, kvs, rfl, _, hh, _⟩ := h
    rcases hh with hh | ⟨o, hh⟩
    · exact .base (.dK hh)
    · exact .fDict hh
  | _ => cases q
/-- isinstance of built-in types -/
def isB (a b : String) : Bool := a == b || (a == "bool" && b == "int")
def tyNames : List String := ["NoneType", "bool", "int", "str", "tuple", "list", "dict"]
theorem isB_ok : (tyNames.all fun a => ["bool", "int", "str", "tuple", "list", "dict"].all fun b => kitB a b == some (isB a b)) = true := by decide +kernel
theorem isB_kit {K : PySem.W.Frag} {a b : String} (ha : a ∈ tyNames) (hb : b ∈ ["bool", "int", "str", "tuple", "list", "dict"]) : PySem.W.kitOne K (.type a) (.type b) = some (isB a b) := by
  have h := List.all_eq_true.mp (List.all_eq_true.mp isB_ok a ha) b hb
  exact kit_ty (beq_iff_eq.mp h)
theorem tyn_mem {d : D} {n : String} (h : d.tyn = some n) : n ∈ tyNames := by
  cases d <;> first
    | (cases h; decide)
    | cases h
def fIsi : O → O → Option O
  | a, .d (.ty b) => match a.fz.tyn with
    | some n => if b ∈ ["bool", "int", "str", "tuple", "list", "dict"] then some (.d (.bl (isB n b))) else none
    | none => none
  | _, _ => none
theorem cIsi : CallOk W (on2 fIsi) (rIsi W.K) := by
  intro Z F P e T σ H os z vs Q hf ss rs k
  obtain ⟨o, p, rfl, hg⟩ := on2_some hf
  clear hf
  obtain ⟨v, u, rfl, s, s'⟩ := ss.two
  unfold fIsi at hg
  split at hg
  · rename_i b
    split at hg
    · rename_i n hn
      split at hg
      · rename_i hb; cases hg
        have eu : u = .ty b := s'.d
        subst eu
        exact ⟨v, .ty b, .type n, .type b, isB n b, rfl, .ty b, s.all.tyx hn, isB_kit (tyn_mem hn) hb, done_leaf (x := .bl (isB n b)) rs (fun _ _ => rfl) k⟩
      · cases hg
    · cases hg
  · cases hg
def fIsiB (bs : List String) (a : O) : Option O := a.fz.tyn.map fun n => .d (.bl (bs.any (isB n)))
theorem kitAny_ok {K : PySem.W.Frag} {n : String} (hn : n ∈ tyNames) : ∀ {bs : List String}, (∀ b ∈ bs, b ∈ ["bool", "int", "str", "tuple", "list", "dict"]) → PySem.W.kitAny K (.type n) (bs.map Value.type) = some (bs.any (isB n))
  | [], _ => kitAny_nil
  | b :: bs, h => by
    rw [List.any_cons, List.map_cons]
    refine kitAny_cons (isB_kit hn (h b List.mem_cons_self)) (fun hz => ?_) (fun hz => ?_)
    · rw [hz, Bool.false_or]; exact kitAny_ok hn fun c hc => h c (List.mem_cons_of_mem _ hc)
    · rw [hz, Bool.true_or]
theorem clsV_tys : ∀ bs : List String, Paired ClsV (bs.map V.ty) (bs.map Value.type)
  | [] => .nil
  | b :: bs => .cons (.ty b) (clsV_tys bs)
/-- isinstance(e, (T1, T2)), built-in types -/
theorem he_isiT {ex : Expr} {da} {bs : List String} {tts : TA} (h : PE X ex (tCB (rIsiT X.K) (tCons (rdV (Cx.wd X cl) Wo da) (tCons (tTup tts) tNil)))) (ht : ∀ (σ : L2.St) (H : Hp) (Q : List V → Hp → Prop), Q (bs.map V.ty) H → tts σ H Q)
    (hb : ∀ b ∈ bs, b ∈ ["bool", "int", "str", "tuple", "list", "dict"] := by decide) (hl : bs.length ≤ sizeLine := by decide) : HE X cl Wo ex (dUn (fIsiB bs) da) :=
  PE.imp h fun σ H Q h => rd1 (r := fun x H1 Q => tts σ H1 fun xs H2 => xs.length ≤ sizeLine ∧ ∀ p, H2 p = none → rIsiT X.K [x, .ref p] (upd H2 p (.tup xs)) Q) (fun Z F P e T σ' H1 a z v Q' hf sa rs k => by
    refine ht _ _ _ ⟨by rw [List.length_map]; exact hl, fun p hp => ?_⟩
    unfold fIsiB at hf
    cases q : a.fz.tyn with
    | none => rw [q] at hf; cases hf
    | some n =>
      rw [q] at hf; cases hf
      have kp : Kp H1 (fun _ => True) (upd H1 p (.tup (bs.map V.ty))) (fun _ => True) := ⟨fun _ h => h, fun a o _ h => same_upd hp a o h, fun a _ h => same_upd hp a _ h, fun a _ _ h => same_upd hp a _ h⟩
      exact ⟨v, p, bs.map V.ty, .type n, bs.map Value.type, bs.any (isB n), rfl, upd_same, clsV_tys bs, ((sa.all).keep kp _ _).tyx q, kitAny_ok (tyn_mem q) hb, k (.bl (bs.any (isB n))) Z F _ (Stp.alloc hp) ((rs.grow (same_upd hp)).push rfl)⟩) h
end
end MX

/-! MXc: iterators over lists and tuples alike: enumerate, zip of two and three, reversed; range with a step. -/
namespace PySem
theorem meets_enumerate_newB1 {v : Value} {o : Obj} {H : Heap → Prop} (B : Begins v o H) :
    Meets (Builtin.«enumerate.__new__» ⟨[.type "enumerate", v], []⟩) (fun _ R s => H s.heap ∧
      R (.ok (.ret (.ref (s.heap.push o).objs.size))) { s with heap := (s.heap.push o).push { cls := .type "enumerate", data := .fields #[.none, .bool false, .ref s.heap.objs.size, rawInt 0, .none, .none] } }) :=
  .of_wp fun prog w A R s h => by
    obtain ⟨hp, g, d, tk, os⟩ := s; obtain ⟨h1, h⟩ := h
    have hsub := sub_enumerate
    have q1 : ∀ {A' : Around} {E : Value → Shared → Prop} {Q : Value → Shared → Prop}, Q (.ref hp.objs.size) ⟨hp.push o, g, d, tk, os⟩ → wpAny (model prog w) A' (pyIter v) Q E ⟨hp, g, d, tk, os⟩ :=
      fun q => B.iter prog w _ _ ⟨hp, g, d, tk, os⟩ _ h1 q
    wp_walk using q1
    refine wpAny_stack_any fun st => wpAny_pure ?_
    split
    · rename_i c _ _ _ _ _
      cases (c == Value.type "enumerate")
      · wp_walk using q1
        exact ⟨_, rfl, h⟩
      · wp_walk using q1
        exact ⟨_, rfl, h⟩
    · wp_walk using q1
      exact ⟨_, rfl, h⟩
section
variable {prog : Program} {w : World} {A : Around} {E : Value → Shared → Prop} {s : Shared}
theorem enum_begins1 {v : Value} {o : Obj} {H : Heap → Prop} {Q : Value → Shared → Prop} (B : Begins v o H) (h1 : H s.heap)
    (h : ∀ h', IsEnum h' (s.heap.objs.size + 1) s.heap.objs.size 0 .none → h'.get? s.heap.objs.size = some o → h'.objs.size = s.heap.objs.size + 2 →
      (∀ b o, s.heap.get? b = some o → h'.get? b = some o) → Q (.ref (s.heap.objs.size + 1)) { s with heap := h' }) :
    wpAny (model prog w) A (call (.type "enumerate") [v]) Q E s := by
  refine callType_new F.called_enumerate (by decide) (F.typeCall_enumerate_1 _) (F.newCall_enumerate_1 _) (fun obj => F.args_object_init_2 obj _) F.entry_enumerate_new
    (meets_enumerate_newB1 B) ⟨h1, ?_⟩
  have hz : (s.heap.push o).objs.size = s.heap.objs.size + 1 := Heap.size_push ..
  show _ ∧ _
  rw [hz]
  have he : IsEnum ((s.heap.push o).push { cls := .type "enumerate", data := .fields #[.none, .bool false, .ref s.heap.objs.size, rawInt 0, .none, .none] }) (s.heap.objs.size + 1) s.heap.objs.size 0 .none := by
    have := Heap.get?_push_size (s.heap.push o) (o := { cls := .type "enumerate", data := .fields #[.none, .bool false, .ref s.heap.objs.size, rawInt 0, .none, .none] }) rfl
    rw [hz] at this; exact this
  refine ⟨⟨_, he, rfl⟩, h _ he (Heap.get?_push_of_some _ (Heap.get?_push_size _ B.free)) (by rw [Heap.size_push, hz]) fun b o x => Heap.get?_push_of_some _ (Heap.get?_push_of_some _ x)⟩
end
end PySem
namespace MX
open PySem L2 PySem.Spec PyProof.Rows
/-! ### sequences: false a list, true a tuple -/
def SqK (K : PySem.W.Frag) : Bool → Hp → Addr → List V → Prop
  | true => SqT K
  | false => SqL K
def SqIt : Bool → Heap → Addr → Addr → Nat → Prop
  | true => fun h it a i => h.IsTupleIter it a i
  | false => fun h it a i => h.IsListIter it a i
def SqO : Bool → Heap → Addr → Array Value → Prop
  | true => fun h a its => h.IsTuple a its
  | false => fun h a its => h.IsList a its
def itObj : Bool → Addr → Obj
  | true => fun a => { cls := .type "tuple_iterator", data := .fields #[.ref a, .int 0 0] }
  | false => fun a => { cls := .type "list_iterator", data := .fields #[.ref a, .int 0 0] }
theorem begins_seq (k : Bool) (a : Addr) (its : Array Value) : Begins (.ref a) (itObj k a) fun h => SqO k h a its := by
  cases k
  · exact begins_list a its
  · exact begins_tuple a its
theorem itObj_at {k : Bool} {h : Heap} {it a : Addr} (e : h.get? it = some (itObj k a)) : SqIt k h it a 0 := by
  cases k
  · exact ⟨_, e, rfl, rfl⟩
  · exact ⟨_, e, rfl, rfl⟩
theorem SqIt.at {k : Bool} {h h' : Heap} {it a : Addr} {i : Nat} (x : SqIt k h it a i) (e : ∀ o, h.get? it = some o → h'.get? it = some o) : SqIt k h' it a i := by
  cases k
  · exact Heap.IsListIter.at x e
  · exact Heap.IsTupleIter.at x e
theorem SqIt.obj {k : Bool} {h : Heap} {it a : Addr} {i : Nat} (x : SqIt k h it a i) : ∃ o, h.get? it = some o ∧ ∀ v, o.data ≠ .cell v := by
  cases k
  · obtain ⟨o, e, _, d⟩ := x
    exact ⟨o, e, fun v q => by rw [d] at q; cases q⟩
  · obtain ⟨o, e, _, d⟩ := x
    exact ⟨o, e, fun v q => by rw [d] at q; cases q⟩
theorem draws_seq {prog : Program} {w : World} {A : Around} (hh : A.handled = none) (k : Bool) (it a : Addr) (hne : a ≠ it) (items : Array Value) :
    Draws prog w A it [it, a] items.size (fun i v => items[i]? = some v) (fun i h => SqIt k h it a i ∧ SqO k h a items) := by
  cases k
  · exact Draws.list hh it a hne items
  · exact Draws.tuple hh it a hne items
section
variable {X : Cx} {pins : List (Addr × Obj)} {σ : L2.St} {H : Hp} {s : Shared}
theorem inv_sq {k : Bool} {a : Addr} {xs : List V} (I : Inv X pins σ H s) (h : SqK X.K k H a xs) : ∃ its : List Value, Vals xs its ∧ SqO k s.heap a its.toArray ∧ a < s.heap.objs.size := by
  cases k
  · obtain ⟨its, rv, p, _⟩ := I.list h
    exact ⟨its, rv, p.isList, p.lt⟩
  · obtain ⟨its, rv, p, _⟩ := I.tuple h
    obtain ⟨o, ho, _⟩ := id p
    exact ⟨its, rv, p, Heap.lt_size ho⟩
theorem inv_sq_inj {k : Bool} {a : Addr} {xs ys : List V} (I : Inv X pins σ H s) (h : SqK X.K k H a xs) (h' : SqK X.K k H a ys) : xs = ys := by
  cases k
  · exact I.list_inj h h'
  · exact I.tuple_inj h h'
end
/-! ### enumerate -/
def ItE (K : PySem.W.Frag) (k : Bool) (a : Addr) : It :=
  ⟨fun i H => ∃ (xs : List V) (x : V), SqK K k H a xs ∧ xs[i]? = some x, fun i H v H' => ∃ T o x, v = .ref T ∧ H T = none ∧ o.dict = none ∧ H' = upd H T (.frz o (.tup [.int (i : Nat), x])) ∧ ∀ xs, SqK K k H a xs → xs[i]? = some x, fun i H => ∃ xs : List V, SqK K k H a xs ∧ xs.length = i⟩
theorem turn_e {P : Program} {w : World} {K : PySem.W.Frag} {elts : List Expr} {kk : Nat} {tpos : Pos} (k : Bool) (a e it : Addr) (hea : e ≠ a) (hia : it ≠ a) :
    Turn P w K (.Tuple elts kk tpos) (ItE K k a) [e, it] e (fun i h => (∃ old, IsEnum h e it ((i : Nat) : Int) old) ∧ SqIt k h it a i ∧ e ≠ it) where
  mem := by simp
  obj := fun i h st b hb => by
    obtain ⟨⟨old, he⟩, hi, _⟩ := st
    have e' : b = e ∨ b = it := by simpa using hb
    rcases e' with z | z
    · rw [z]; exact ⟨_, he, fun v q => nomatch q⟩
    · rw [z]; exact hi.obj
  keep := fun i h h' st k => let ⟨⟨old, he⟩, hi, hne⟩ := st; ⟨⟨old, k e (by simp) _ he⟩, hi.at fun o q => k it (by simp) o q, hne⟩
  item := by
    intro X hP hw hK hc i pins s σ H E I hf st hg
    subst hP hw hK
    obtain ⟨⟨old, he⟩, hit, hne⟩ := st
    obtain ⟨xs, x, hq, hx⟩ := hg
    obtain ⟨its, rv, p, hlt⟩ := inv_sq I hq
    obtain ⟨u, hu, ru⟩ := rv.get hx
    have hel : e < s.heap.objs.size := Heap.lt_size he
    have hil : it < s.heap.objs.size := by obtain ⟨_, q, _⟩ := hit.obj; exact Heap.lt_size q
    have D := draws_seq (prog := X.prog) (w := X.w) (A := X.A.in1) (I.ok.hd hc) k it a (Ne.symm hia) its.toArray
    refine wpAny_pyNext_enum_itemC D he ⟨hit, p⟩ (by rw [List.size_toArray]; exact lt_of_get hu) hne (by simp [hne, hea]) fun x' h' tk hx' ho hst hT hsz hk => ?_
    have hx'' : u = x' := by
      have : its[i]? = some x' := by simpa using hx'
      rw [hu] at this
      exact Option.some.inj this
    subst hx''
    refine ⟨_, rfl, wpAny_letOwnedTupleGo_enum (s := { s with heap := h', toks := tk + 1 }) ho fun h'' he' sb => ?_⟩
    have hT2 : h''.get? s.heap.objs.size = some { cls := .type "tuple", data := .seq #[.int i tk, u] } := (sb.2 _ (Nat.ne_of_gt hel)).trans hT
    have new : ObjOk X.prog X.w (upd H s.heap.objs.size (.frz { cls := .type "tuple", data := .seq #[.int i tk, u] } (.tup [.int (i : Nat), x]))) h'' s.heap.objs.size (.frz { cls := .type "tuple", data := .seq #[.int i tk, u] } (.tup [.int (i : Nat), x])) :=
      ⟨hT2, by show 2 ≤ sizeLine; decide, [.int i tk, u], .cons ⟨_, rfl⟩ (.cons ru .nil), ⟨_, hT2, rfl, _, rfl⟩⟩
    have I1 : Inv X pins σ (upd H s.heap.objs.size (.frz { cls := .type "tuple", data := .seq #[.int i tk, u] } (.tup [.int (i : Nat), x]))) { s with heap := h'', toks := tk + 1 } :=
      I.turnedNew (ch := [e, it]) (fun b ob hb q => (sb.2 b (fun z => hb (by simp [z]))).trans (hk b ob (fun z => hb (by simp [z])) (fun z => hb (by simp [z])) q)) hf (Nat.le_refl _) new
    refine ⟨.ref s.heap.objs.size, _, I1, rfl, ⟨_, _, x, rfl, I.hok.fresh (Nat.le_refl _), rfl, rfl, fun ys hy => by rw [inv_sq_inj I hy hq]; exact hx⟩, ⟨⟨u, ?_⟩, hst.1.at fun o q => (sb.2 it (Ne.symm hne)).trans q, hne⟩, fun b hb => ?_⟩
    · have e1 : ((i + 1 : Nat) : Int) = (i : Int) + 1 := by omega
      rw [e1]; exact he'
    · have hb' : b < s.heap.objs.size := by
        have e' : b = e ∨ b = it := by simpa using hb
        rcases e' with z | z
        · rw [z]; exact hel
        · rw [z]; exact hil
      rw [upd_ne (Nat.ne_of_lt hb')]
      exact (hf b hb).1
  done := by
    intro X hP hw hK hc i pins s σ H E I hf st hg
    subst hP hw hK
    obtain ⟨⟨old, he⟩, hit, hne⟩ := st
    obtain ⟨xs, hq, hx⟩ := hg
    obtain ⟨its, rv, p, hlt⟩ := inv_sq I hq
    obtain ⟨f0, f1, f2, f3, f4, f5⟩ := hf it (by simp)
    have D := draws_seq (prog := X.prog) (w := X.w) (A := X.A.in1) (I.ok.hd hc) k it a (Ne.symm hia) its.toArray
    have hl : i = its.toArray.size := by rw [List.size_toArray, ← rv.length, hx]
    subst hl
    exact wpAny_pyNext_enum_endD D he ⟨hit, p⟩ fun h' eb => ⟨rfl, I.turned (t' := s.toks) (fun b o hb q => eb b o hb q) f0 f1 f3 f4 f5⟩
  self := fun A i s Q E st h => let ⟨⟨_, he⟩, _⟩ := st; wpAny_pyIter_enum he h
def iE (K : PySem.W.Frag) (ta : TA) : TI := fun σ H R => ta σ H fun vs H1 => ∃ k a xs, vs = [.ref a] ∧ SqK K k H1 a xs ∧ R (ItE K k a) H1
theorem pi_e {X : Cx} {e : Expr} {ta : TA} {p pos tpos : Pos} {elts : List Expr} {kk : Nat} (hg : Gl X "enumerate") (hm : X.mg "enumerate" = none) (ha : PA X [e] ta) (hs : starEach [e] X.env = [(false, eval e X.env)] := by rfl) :
    PI X (.Tuple elts kk tpos) (.Call (.Name "enumerate" p) [e] [] pos) (iE X.K ta) := by
  refine ⟨fun pins s σ H R I h => ?_⟩
  refine Call_ (ld_blt I hg hm boot_enumerate (PyProof.Rows.callWith_type1 (thn (ha.run pos pins s σ H _ I h) fun us s1 ⟨vs, H1, I1, r1, q1⟩ => ?_) hs rfl))
  obtain ⟨k, a, xs, ex, hq, q⟩ := q1
  subst ex
  cases r1 with
  | cons r rr =>
    cases rr
    cases r
    obtain ⟨its, rv, p', hlt⟩ := inv_sq I1 hq
    refine enum_begins1 (begins_seq k a its.toArray) p' fun h' he hit hsz hk => wpAny_pyIter_enum he ?_
    have I2 : Inv X pins σ H1 { s1 with heap := h' } := I1.kept (t' := s1.toks) hk
    refine ⟨s1.heap.objs.size + 1, [s1.heap.objs.size + 1, s1.heap.objs.size], _, _, H1, rfl, I2, turn_e k a (s1.heap.objs.size + 1) s1.heap.objs.size (Nat.ne_of_gt (Nat.lt_succ_of_lt hlt)) (Nat.ne_of_gt hlt), ⟨⟨.none, he⟩, itObj_at hit, Nat.succ_ne_self _⟩, fun b hb => ?_, q⟩
    have e' : b = s1.heap.objs.size + 1 ∨ b = s1.heap.objs.size := by simpa using hb
    have hle : s1.heap.objs.size ≤ b := by
      rcases e' with z | z
      · rw [z]; exact Nat.le_add_right _ _
      · rw [z]; exact Nat.le_refl _
    exact I1.fpOk hle (I1.hok.fresh hle)

/-! ### zip of two -/
def ItZ (K : PySem.W.Frag) (k1 k2 : Bool) (a b : Addr) : It :=
  ⟨fun i H => ∃ (xs ys : List V) (x y : V), SqK K k1 H a xs ∧ SqK K k2 H b ys ∧ xs[i]? = some x ∧ ys[i]? = some y,
    fun i H v H' => ∃ T o x y, v = .ref T ∧ H T = none ∧ o.dict = none ∧ H' = upd H T (.frz o (.tup [x, y])) ∧ (∀ xs, SqK K k1 H a xs → xs[i]? = some x) ∧ ∀ ys, SqK K k2 H b ys → ys[i]? = some y,
    fun i H => ∃ xs ys : List V, SqK K k1 H a xs ∧ SqK K k2 H b ys ∧ i = min xs.length ys.length⟩
theorem sep2 {z TI TO i1 i2 a b N : Addr} (ha : a < N) (hb : b < N) (h : z = N + 4 ∧ TI = N + 2 ∧ TO = N + 3 ∧ i1 = N ∧ i2 = N + 1) : ZipSep2 z TI TO i1 i2 [i1, a] [i2, b] := by
  obtain ⟨rfl, rfl, rfl, rfl, rfl⟩ := h
  exact zip_sep2 (fp1 := [a]) (fp2 := [b]) (by simpa using ha) (by simpa using hb)
theorem turn_z {P : Program} {w : World} {K : PySem.W.Frag} {elts : List Expr} {kk : Nat} {tpos : Pos} {a b z TI TO i1 i2 : Addr} (k1 k2 : Bool) (S : ZipSep2 z TI TO i1 i2 [i1, a] [i2, b]) (h1a : a ≠ i1) (h2b : b ≠ i2) :
    Turn P w K (.Tuple elts kk tpos) (ItZ K k1 k2 a b) [z, TI, TO, i1, i2] z (fun i h => IsZip h z TI TO .none ∧ IsTupOf2 h TI (.ref i1) (.ref i2) ∧ (∃ x y, IsTupOf2 h TO x y) ∧ SqIt k1 h i1 a i ∧ SqIt k2 h i2 b i) where
  mem := by simp
  obj := fun i h st c hc => by
    obtain ⟨hz, hTI, ⟨x, y, hTO⟩, h1, h2⟩ := st
    have e' : c = z ∨ c = TI ∨ c = TO ∨ c = i1 ∨ c = i2 := by simpa using hc
    rcases e' with q | q | q | q | q
    · rw [q]; exact ⟨_, hz, fun v q => nomatch q⟩
    · rw [q]; exact ⟨_, hTI, fun v q => nomatch q⟩
    · rw [q]; exact ⟨_, hTO, fun v q => nomatch q⟩
    · rw [q]; exact h1.obj
    · rw [q]; exact h2.obj
  keep := fun i h h' st k => by
    obtain ⟨hz, hTI, ⟨x, y, hTO⟩, h1, h2⟩ := st
    exact ⟨k z (by simp) _ hz, k TI (by simp) _ hTI, ⟨x, y, k TO (by simp) _ hTO⟩, h1.at fun o q => k i1 (by simp) o q, h2.at fun o q => k i2 (by simp) o q⟩
  item := by
    intro X hP hw hK hc i pins s σ H E I hf st hg
    subst hP hw hK
    obtain ⟨hz, hTI, ⟨x0, y0, hTO⟩, h1, h2⟩ := st
    obtain ⟨xs, ys, x, y, hqx, hqy, hx, hy⟩ := hg
    obtain ⟨its, rv, p, _⟩ := inv_sq I hqx
    obtain ⟨its2, rv2, p2, _⟩ := inv_sq I hqy
    obtain ⟨u, hu, ru⟩ := rv.get hx
    obtain ⟨u2, hu2, ru2⟩ := rv2.get hy
    have hzl : z < s.heap.objs.size := Heap.lt_size hz
    have D1 := draws_seq (prog := X.prog) (w := X.w) (A := X.A.in1) (I.ok.hd hc) k1 i1 a h1a its.toArray
    have D2 := draws_seq (prog := X.prog) (w := X.w) (A := X.A.in1) (I.ok.hd hc) k2 i2 b h2b its2.toArray
    refine wpAny_pyNext_zipD2_item S D1 D2 hz hTI hTO ⟨h1, p⟩ ⟨h2, p2⟩ (by rw [List.size_toArray]; exact lt_of_get hu) (by rw [List.size_toArray]; exact lt_of_get hu2) fun x1 x2 h' tk px py z' TO' h1' h2' hT hsz hk => ?_
    have ex : u = x1 := by
      have : its[i]? = some x1 := by simpa using px
      rw [hu] at this
      exact Option.some.inj this
    have ey : u2 = x2 := by
      have : its2[i]? = some x2 := by simpa using py
      rw [hu2] at this
      exact Option.some.inj this
    subst ex ey
    refine ⟨_, rfl, wpAny_letOwnedTupleGo_zip (s := { s with heap := h', toks := tk }) z' fun h'' z'' sb => ?_⟩
    have hT2 : h''.get? s.heap.objs.size = some { cls := .type "tuple", data := .seq #[u, u2] } := (sb.2 _ (Nat.ne_of_gt hzl)).trans hT
    have new : ObjOk X.prog X.w (upd H s.heap.objs.size (.frz { cls := .type "tuple", data := .seq #[u, u2] } (.tup [x, y]))) h'' s.heap.objs.size (.frz { cls := .type "tuple", data := .seq #[u, u2] } (.tup [x, y])) :=
      ⟨hT2, by show 2 ≤ sizeLine; decide, [u, u2], .cons ru (.cons ru2 .nil), ⟨_, hT2, rfl, _, rfl⟩⟩
    have I1 : Inv X pins σ (upd H s.heap.objs.size (.frz { cls := .type "tuple", data := .seq #[u, u2] } (.tup [x, y]))) { s with heap := h'', toks := tk } :=
      I.turnedNew (ch := [z, TI, TO, i1, i2]) (fun c o hb q => (sb.2 c (fun q' => hb (by simp [q']))).trans (hk c o (fun q' => hb (by simp [q'])) (fun q' => hb (by simp [q'])) (fun q' => hb (by simp [q'])) (fun q' => hb (by simp [q'])) q)) hf (Nat.le_refl _) new
    refine ⟨.ref s.heap.objs.size, _, I1, rfl, ⟨_, _, x, y, rfl, I.hok.fresh (Nat.le_refl _), rfl, rfl, fun l hl => by rw [inv_sq_inj I hl hqx]; exact hx, fun l hl => by rw [inv_sq_inj I hl hqy]; exact hy⟩, ⟨z'', ?_, ⟨u, u2, ?_⟩, ?_, ?_⟩, fun c hcm => ?_⟩
    · exact (sb.2 _ S.TIz).trans (hk _ _ S.TIz S.TITO S.TIi1 S.TIi2 hTI)
    · exact (sb.2 _ S.TOz).trans TO'
    · exact h1'.1.at fun o q => (sb.2 _ (Ne.symm S.zi1)).trans q
    · exact h2'.1.at fun o q => (sb.2 _ (Ne.symm S.zi2)).trans q
    · have hlt : c < s.heap.objs.size := by
        have e' : c = z ∨ c = TI ∨ c = TO ∨ c = i1 ∨ c = i2 := by simpa using hcm
        rcases e' with q | q | q | q | q
        · rw [q]; exact hzl
        · rw [q]; exact Heap.lt_size hTI
        · rw [q]; exact Heap.lt_size hTO
        · rw [q]; obtain ⟨_, e1, _⟩ := h1.obj; exact Heap.lt_size e1
        · rw [q]; obtain ⟨_, e2, _⟩ := h2.obj; exact Heap.lt_size e2
      rw [upd_ne (Nat.ne_of_lt hlt)]
      exact (hf c hcm).1
  done := by
    intro X hP hw hK hc i pins s σ H E I hf st hg
    subst hP hw hK
    obtain ⟨hz, hTI, ⟨x0, y0, hTO⟩, h1, h2⟩ := st
    obtain ⟨xs, ys, hqx, hqy, hend⟩ := hg
    obtain ⟨its, rv, p, _⟩ := inv_sq I hqx
    obtain ⟨its2, rv2, p2, _⟩ := inv_sq I hqy
    have D1 := draws_seq (prog := X.prog) (w := X.w) (A := X.A.in1) (I.ok.hd hc) k1 i1 a h1a its.toArray
    have D2 := draws_seq (prog := X.prog) (w := X.w) (A := X.A.in1) (I.ok.hd hc) k2 i2 b h2b its2.toArray
    have l1 := rv.length
    have l2 := rv2.length
    exact wpAny_pyNext_zipD2_end S D1 D2 hz hTI hTO ⟨h1, p⟩ ⟨h2, p2⟩ (by rw [List.size_toArray]; omega) (by rw [List.size_toArray]; omega) (by rw [List.size_toArray, List.size_toArray]; omega) fun h' tk hk => ⟨rfl, I.turnedL (ch := [z, TI, TO, i1, i2]) (fun c o hb q =>
      hk c o (fun q' => hb (by simp [q'])) (fun q' => hb (by simp [q'])) (fun q' => hb (by simp [q'])) (fun q' => hb (by simp [q'])) q) hf⟩
  self := fun A i s Q E st h => wpAny_pyIter_zip st.1 h
def iZ (K : PySem.W.Frag) (ta : TA) : TI := fun σ H R => ta σ H fun vs H1 => ∃ k1 k2 a b xs ys, vs = [.ref a, .ref b] ∧ SqK K k1 H1 a xs ∧ SqK K k2 H1 b ys ∧ R (ItZ K k1 k2 a b) H1
theorem pi_z {X : Cx} {e e2 : Expr} {ta : TA} {p pos tpos : Pos} {elts : List Expr} {kk : Nat} (hg : Gl X "zip") (hm : X.mg "zip" = none) (ha : PA X [e, e2] ta)
    (hs : starEach [e, e2] X.env = (false, eval e X.env) :: starEach [e2] X.env := by rfl) (hpl : (backTo pos (starEach [e2] X.env)).any (·.1) = false := by rfl) :
    PI X (.Tuple elts kk tpos) (.Call (.Name "zip" p) [e, e2] [] pos) (iZ X.K ta) := by
  refine ⟨fun pins s σ H R I h => ?_⟩
  refine Call_ (ld_blt I hg hm PyProof.Rows.boot_zip (PyProof.Rows.callWith_type1 (thn (ha.run pos pins s σ H _ I h) fun us s1 ⟨vs, H1, I1, r1, q1⟩ => ?_) hs hpl))
  obtain ⟨k1, k2, a, b, xs, ys, ex, hqx, hqy, q⟩ := q1
  subst ex
  cases r1 with
  | cons r rr =>
    cases rr with
    | cons r' rr =>
      cases rr
      cases r
      cases r'
      have fresh5 : ∀ c, c ∈ [s1.heap.objs.size + 4, s1.heap.objs.size + 2, s1.heap.objs.size + 3, s1.heap.objs.size, s1.heap.objs.size + 1] → FpOk X pins H1 c := fun c hcm => by
        have e' : c = s1.heap.objs.size + 4 ∨ c = s1.heap.objs.size + 2 ∨ c = s1.heap.objs.size + 3 ∨ c = s1.heap.objs.size ∨ c = s1.heap.objs.size + 1 := by simpa using hcm
        have hle : s1.heap.objs.size ≤ c := by
          rcases e' with z | z | z | z | z
          · rw [z]; exact Nat.le_add_right _ _
          · rw [z]; exact Nat.le_add_right _ _
          · rw [z]; exact Nat.le_add_right _ _
          · rw [z]; exact Nat.le_refl _
          · rw [z]; exact Nat.le_add_right _ _
        exact I1.fpOk hle (I1.hok.fresh hle)
      obtain ⟨its, rv, p1, l1⟩ := inv_sq I1 hqx
      obtain ⟨its2, rv2, p2, l2⟩ := inv_sq I1 hqy
      refine zip_begins2 (begins_seq k1 a its.toArray) (begins_seq k2 b its2.toArray) p1 p2 fun h' hz hTI hTO h1 h2 hsz hk => wpAny_pyIter_zip hz ?_
      have I2 : Inv X pins σ H1 { s1 with heap := h' } := I1.kept (t' := s1.toks) hk
      exact ⟨s1.heap.objs.size + 4, [s1.heap.objs.size + 4, s1.heap.objs.size + 2, s1.heap.objs.size + 3, s1.heap.objs.size, s1.heap.objs.size + 1], _, _, H1, rfl, I2, turn_z k1 k2 (sep2 l1 l2 ⟨rfl, rfl, rfl, rfl, rfl⟩) (Nat.ne_of_lt l1) (Nat.ne_of_lt (Nat.lt_succ_of_lt l2)), ⟨hz, hTI, ⟨_, _, hTO⟩, itObj_at h1, itObj_at h2⟩, fresh5, q⟩
end MX

/-! MXd: unions by type, iterators as denotations, stores into slots, methods that look. -/
namespace MX
open PySem L2
section
variable {X : Cx} {cl : Cl} {Wo : WX} {pos : Pos}
variable {W : Wd} {Z F Z' F' : Addr → Prop} {P P' : Nat → V} {e : En} {T : Ts} {σ : L2.St} {H H' : Hp} {Q : VK}
/-! ### one or the other -/
def dOr {α : Type} (a b : En → Rs α) : En → Rs α := fun e => match a e with
  | .bad => b e
  | r => r
theorem dOr_cases {α : Type} {a b : En → Rs α} {p : Rs α → Prop} (h : p (dOr a b e)) (hb : ¬ p .bad) : p (a e) ∨ p (b e) := by
  unfold dOr at h
  cases q : a e with
  | bad => rw [q] at h; exact .inr h
  | ok x e1 => rw [q] at h; exact .inl h
  | exc c ps e1 => rw [q] at h; exact .inl h
theorem PE.or {ex : Expr} {t u : TE} (h : PE X ex t) (h' : PE X ex u) : PE X ex (fun σ H Q => t σ H Q ∨ u σ H Q) := ⟨fun pins s σ H Q I q => q.elim (h.run pins s σ H Q I) (h'.run pins s σ H Q I)⟩
theorem he_alt {ex : Expr} {a b} (h : HE X cl Wo ex a) (h' : HE X cl Wo ex b) : HE X cl Wo ex (dOr a b) :=
  PE.imp (PE.or h h') fun σ H Q ⟨Z, F, P, e, T, r, k⟩ => (dOr_cases k id).imp (fun k => ⟨Z, F, P, e, T, r, k⟩) (fun k => ⟨Z, F, P, e, T, r, k⟩)
theorem PI.or {tg it : Expr} {t u : TI} (h : PI X tg it t) (h' : PI X tg it u) : PI X tg it (fun σ H R => t σ H R ∨ u σ H R) := ⟨fun pins s σ H R I q => q.elim (h.run pins s σ H R I) (h'.run pins s σ H R I)⟩
theorem hi_alt {tg it : Expr} {a b} (h : HI X cl Wo tg it a) (h' : HI X cl Wo tg it b) : HI X cl Wo tg it (dOr a b) :=
  PI.imp (PI.or h h') fun σ H R ⟨Z, F, P, e, T, r, k⟩ => by
    have : ∀ d : En → Rs (List D), (match d e with
      | .ok ds e' => ∀ Z' F' H' J T2, Stp Z F H Z' F' H' → RS (Cx.wd X cl) Z' F' P e' (T2 ++ T) σ H' → ItOk (Cx.wd X cl) J T2 ds → R J H'
      | .exc c ps e' => XOk (Cx.wd X cl) Wo Z F P T σ H c ps e'
      | .bad => False) → rdI (Cx.wd X cl) Wo d σ H R := fun d k => ⟨Z, F, P, e, T, r, k⟩
    unfold dOr at k
    cases q : a e with
    | bad => rw [q] at k; exact .inr (this b k)
    | ok x e1 => rw [q] at k; exact .inl (this a (by rw [q]; exact k))
    | exc c ps e1 => rw [q] at k; exact .inl (this a (by rw [q]; exact k))
/-! ### made known -/
def dFz (d : En → Rs O) : En → Rs O := fun e => (d e).bind fun o e1 => .ok (.d o.fz) e1
theorem he_fz {ex : Expr} {d} (h : HE X cl Wo ex d) : HE X cl Wo ex (dFz d) :=
  PE.imp h fun σ H Q ⟨Z, F, P, e, T, r, k⟩ => by
    refine ⟨Z, F, P, e, T, r, ?_⟩
    unfold dFz at k
    cases q : d e with
    | bad => rw [q] at k; exact k
    | exc c ps e1 => rw [q] at k; exact k
    | ok o e1 =>
      rw [q] at k
      intro v Z1 F1 H1 s1 r1
      obtain ⟨Z2, F2, s2, r2⟩ := r1.freeze
      exact k v Z2 F2 H1 (s1.trans s2) r2
/-! ### operators of any type -/
def fAdd (a b : O) : Option O := match fAddI a b with
  | some z => some z
  | none => match fAddS a b with
    | some z => some z
    | none => match fCat a b with
      | some z => some z
      | none => fCatT a b
theorem he_add {a b : Expr} {da db} (ha : HV X cl Wo a da) (hb : HV X cl Wo b db) : HE X cl Wo (.BinOp a .Add b pos) (dBin fAdd da db) :=
  he_op (f := fAdd) (OpR.or op_add (OpR.or op_add_str (OpR.or op_catR op_catN))) (BinOk.or bAddI (BinOk.or bAddS (BinOk.or bCat bCatT))) ha hb
def repD (k : Int) (ds : List D) : List D := (List.replicate k.toNat ds).flatten
def fRepL : O → O → Option O
  | .lst os, .d (.int k) => match leafs os with
    | some ds => if -(2 ^ 63) ≤ k ∧ k < 2 ^ 63 ∧ ds.length * k.toNat ≤ sizeLine then some (.lst ((repD k ds).map .d)) else none
    | none => none
  | _, _ => none
theorem RDs.rep {ds : List D} {vs : List V} (h : RDs W H Z ds vs) : ∀ n : Nat, RDs W H Z (List.replicate n ds).flatten (List.replicate n vs).flatten
  | 0 => rfl
  | n + 1 => by
    rw [List.replicate_succ, List.replicate_succ, List.flatten_cons, List.flatten_cons]
    exact h.append (RDs.rep h n)
theorem bRepL : BinOk W fRepL rRep := by
  intro Z F P e T σ H a b z v u Q hf sa sb rs k
  unfold fRepL at hf
  split at hf
  · rename_i os i
    split at hf
    · rename_i ds hl
      split at hf
      · rename_i hb; cases hf
        obtain ⟨f, p, vs, f', ev, hh, ef, ro⟩ := sa
        rw [leafs_eq hl] at ro
        have rd := ro.rds
        exact ⟨p, i, vs, ev, sb.int, hh, hb.1, hb.2.1, by rw [← rd.len]; exact hb.2.2, fun c hc => k _ _ _ _ (Stp.allocF hc) (rs.newL (rd.rep _) hc)⟩
      · cases hf
    · cases hf
  · cases hf
def fRepT : O → O → Option O := fun a b => match a.tp, b with
  | some ds, .d (.int k) => if ds ≠ [] ∧ 2 ≤ k ∧ k ≤ 1000 ∧ ds.length ≤ 1000 then some (.d (.tup (repD k ds))) else none
  | _, _ => none
theorem bRepT : BinOk W fRepT (rRepN W.K) := by
  intro Z F P e T σ H a b z v u Q hf sa sb rs k
  unfold fRepT at hf
  split at hf
  · rename_i ds i hx
    split at hf
    · rename_i hb; cases hf
      obtain ⟨p, vs, e1, h1, r1⟩ := sa.tuple hx
      refine ⟨p, i, vs, e1, sb.int, h1, fun q => hb.1 ?_, hb.2.1, hb.2.2.1, by rw [← r1.len]; exact hb.2.2.2, fun c o hc ho => k _ _ _ _ (Stp.alloc hc) (rs.newT (r1.rep _) hc ho)⟩
      subst q
      exact List.length_eq_zero_iff.mp r1.len
    · cases hf
  · cases hf
def fMul (a b : O) : Option O := match fMulS a b with
  | some z => some z
  | none => match fMulW a b with
    | some z => some z
    | none => match fRepL a b with
      | some z => some z
      | none => fRepT a b
theorem he_mul {a b : Expr} {da db} (ha : HV X cl Wo a da) (hb : HV X cl Wo b db) : HE X cl Wo (.BinOp a .Mult b pos) (dBin fMul da db) :=
  he_op (f := fMul) (OpR.or op_mul (OpR.or op_mulW (OpR.or op_rep op_repN))) (BinOk.or bMulS (BinOk.or bMulW (BinOk.or bRepL bRepT))) ha hb
theorem he_sub {a b : Expr} {da db} (ha : HV X cl Wo a da) (hb : HV X cl Wo b db) : HE X cl Wo (.BinOp a .Sub b pos) (dBin fSub da db) := he_op op_sub bSub ha hb
theorem he_mod {a b : Expr} {da db} (ha : HV X cl Wo a da) (hb : HV X cl Wo b db) : HE X cl Wo (.BinOp a .Mod b pos) (dBin fMod da db) := he_op op_mod bMod ha hb
theorem he_fdiv {a b : Expr} {da db} (ha : HV X cl Wo a da) (hb : HV X cl Wo b db) : HE X cl Wo (.BinOp a .FloorDiv b pos) (dBin fDiv da db) := he_op op_fdivW bDiv ha hb
theorem he_pow {a b : Expr} {da db} (ha : HV X cl Wo a da) (hb : HV X cl Wo b db) : HE X cl Wo (.BinOp a .Pow b pos) (dBin fPow da db) := he_op op_pow bPow ha hb
/-- a subscript -/
theorem ix_dk (hu : X.A.units + 1 < cLine) : IxR X (fun x y H Q => ∃ a v, x = .ref a ∧ DGet H a y (some v) ∧ Q v H) := by
  intro value slice pins s σ H x y v u Q I rx ry h hs
  obtain ⟨a, v', rfl, g, q⟩ := h
  obtain rfl : v = Value.ref a := rx
  exact PyProof.Rows.tail_any (dict_typeIs I g) PySem.F.slot_dict_getitem.lookup (d_getItem hu I g ry fun w' s3 I3 rw' => ⟨v', H, I3, rw', q⟩) hs
def fIx (a b : O) : Option O := match fIxL a b with
  | some z => some z
  | none => match fIxT a b with
    | some z => some z
    | none => match fIxS a b with
      | some z => some z
      | none => fDget a b
theorem he_sbs {a b : Expr} {da db} (hu : X.A.units + 1 < cLine) (ha : HV X cl Wo a da) (hb : HV X cl Wo b db) (hs : PlainIx b) : HE X cl Wo (.Subscript a b pos) (dBin fIx da db) :=
  he_ix (f := fIx) (IxR.or ix_list (IxR.or ix_tup (IxR.or ix_str (ix_dk hu)))) (BinOk.or bIxL (BinOk.or bIxT (BinOk.or bIxS bDget))) ha hb hs
/-- a slice -/
def fSl (a : O) (l u : Option Int) : Option O := match fSlL a l u with
  | some z => some z
  | none => fSlT a l u
theorem SlOk.or {f g : O → Option Int → Option Int → Option O} {r r' : V → Option Int → Option Int → Hp → VK → Prop} (a : SlOk W f r) (b : SlOk W g r') : SlOk W (fun x l u => match f x l u with | some z => some z | none => g x l u) (fun x l u H Q => r x l u H Q ∨ r' x l u H Q) := by
  intro Z F P e T σ H x l u z v Q hf sa rs k
  cases q : f x l u with
  | some w => simp only [q] at hf; exact .inl (a Z F P e T σ H x l u w v Q q sa rs (by rw [Option.some.inj hf]; exact k))
  | none => simp only [q] at hf; exact .inr (b Z F P e T σ H x l u z v Q hf sa rs k)
theorem he_sl {ex : Expr} {lo hi : Option Expr} {p2 : Pos} {d dl dh} (he : HV X cl Wo ex d) (hl : HO_ X cl Wo lo dl) (hu : HO_ X cl Wo hi dh) : HE X cl Wo (.Subscript ex (.Slice lo hi none p2) pos) (dSl fSl d dl dh) :=
  he_slice (f := fSl) (SlR.or sl_list sl_tupN) (SlOk.or lSlL lSlT) he hl hu
/-- in -/
theorem op_in_dk (hu : X.A.units + 1 < cLine) : OpR X (compareOp .In) (fun y x H Q => ∃ a o, x = .ref a ∧ DGet H a y o ∧ Q (.bl o.isSome) H) := by
  intro pins s σ H y x u v Q I ry rx h
  obtain ⟨a, o, rfl, g, q⟩ := h
  obtain rfl : v = Value.ref a := rx
  exact d_in hu I g ry fun s' I' => ⟨.bl o.isSome, H, I', rfl, q⟩
theorem op_notIn_dk (hu : X.A.units + 1 < cLine) : OpR X (compareOp .NotIn) (fun y x H Q => ∃ a o, x = .ref a ∧ DGet H a y o ∧ Q (.bl (!o.isSome)) H) := by
  intro pins s σ H y x u v Q I ry rx h
  obtain ⟨a, o, rfl, g, q⟩ := h
  obtain rfl : v = Value.ref a := rx
  exact d_notIn hu I g ry fun s' I' => ⟨.bl (!o.isSome), H, I', rfl, q⟩
def fInU (a b : O) : Option O := match fIn a b with
  | some z => some z
  | none => fDin a b
def fNinU (a b : O) : Option O := match fNin a b with
  | some z => some z
  | none => fDnin a b
/-! ### stores -/
def O.store (c ko o : O) : Option O := match c with
  | .lst os => match ko with
    | .d (.int k) => (ixN os.length k).map fun j => .lst (os.set j o)
    | _ => none
  | .dic ks xs => match keyO ko with
    | some k => if ks.length < sizeLine then some (.dic (putKs ks xs k o).1 (putKs ks xs k o).2) else none
    | none => none
  | _ => none
theorem PSet.or {t t' : TSet} (h : PSet X t) (h' : PSet X t') : PSet X (fun o i v H Q => t o i v H Q ∨ t' o i v H Q) := by
  intro pins s σ H o i v ov iv u Q I ro ri rv q
  exact q.elim (h pins s σ H o i v ov iv u Q I ro ri rv) (h' pins s σ H o i v ov iv u Q I ro ri rv)
def rSetA : TSet := fun o i v H Q => rSetL o i v H Q ∨ rSetD o i v H Q
theorem set_any (hu : X.A.units + 1 < cLine) : PSet X rSetA := PSet.or set_list (set_dict hu)
theorem RS.lput {os : List O} {a : Addr} {j : Nat} {o : O} {v : V} (r : RS W Z F P e ((.lst os, .ref a) :: (o, v) :: T) σ H) (hj : j < os.length) : ∃ vs : List V, H a = some (.lst vs) ∧ vs.length = os.length ∧
    Stp Z F H Z F (upd H a (.lst (vs.set j v))) ∧ RS W Z F P e ((.lst (os.set j o), .ref a) :: T) σ (upd H a (.lst (vs.set j v))) := by
  obtain ⟨f, ⟨a', vs, f', ev, hh, _, hc⟩, _⟩ := r.top
  cases ev
  refine ⟨vs, hh, hc.len.symm, ?_⟩
  have r' : RS W Z F P e (([(.lst os, .ref a), (o, v)] : Ts) ++ T) σ H := r
  refine RS.write (C' := [(.lst (os.set j o), .ref a)]) (o := .lst (vs.set j v)) r' trivial (fun fC hC => ?_) (fun kp fC hC nd => ?_)
  · obtain ⟨v', rr, f1, f2, ev, ef, ⟨a', us', f3, ev', _, e3, _⟩, _⟩ := hC
    cases ev
    cases ev'
    rw [ef, e3]
    exact List.mem_append_left _ List.mem_cons_self
  · obtain ⟨v', rr, f1, f2, ev, ef, ⟨a', us', f3, ev', hh', e3, hcs⟩, ho⟩ := hC
    cases ev
    cases ev'
    rw [hh] at hh'
    cases hh'
    have ho' := ros_one ho
    subst ef e3
    have nd1 := List.nodup_append.mp nd
    have nd3 := List.nodup_cons.mp nd1.1
    have na : ∀ b ∈ f3, b ≠ a := fun b hb q => nd3.1 (by rw [← q]; exact hb)
    have nb : ∀ b ∈ f2, b ≠ a := fun b hb q => nd1.2.2 a List.mem_cons_self b hb q.symm
    obtain ⟨g1, g2, g3, eg, pr⟩ := ROs.setO (hcs.keep kp _ _ _ fun b hb u hu => by rw [upd_ne (na b hb)]; exact hu) (List.getElem?_eq_getElem hj) (ho'.keep kp _ _ _ fun b hb u hu => by rw [upd_ne (nb b hb)]; exact hu)
    subst eg
    have pp : (a :: (g1 ++ g2 ++ g3) ++ f2).Perm (g2 ++ (a :: (g1 ++ f2 ++ g3))) := by
      refine (List.Perm.trans ?_ List.perm_middle.symm)
      refine List.Perm.cons a ?_
      show ((g1 ++ g2 ++ g3) ++ f2).Perm (g2 ++ (g1 ++ f2 ++ g3))
      simp only [List.append_assoc]
      refine (List.perm_append_comm_assoc g1 g2 _).trans ?_
      exact List.Perm.append_left _ (List.Perm.append_left _ List.perm_append_comm)
    have nd4 := pp.nodup nd
    exact ⟨a :: (g1 ++ f2 ++ g3), ROs.one ⟨a, vs.set j v, _, rfl, upd_same, rfl, pr⟩, nd4.sublist (List.sublist_append_right _ _), fun b hb => pp.mem_iff.mpr (List.mem_append_right _ hb)⟩
/-- a store into a held container -/
theorem RS.stO {c ko o c' : O} {w u v : V} {QQ : Hp → Prop} (r : RS W Z F P e ((c, w) :: (o, v) :: T) σ H) (hs : c.store ko o = some c') (sk : See W H Z ko u)
    (k : ∀ H', Stp Z F H Z F H' → RS W Z F P e ((c', w) :: T) σ H' → QQ H') : rSetA w u v H QQ := by
  unfold O.store at hs
  split at hs
  · rename_i os
    split at hs
    · rename_i i
      cases q : ixN os.length i with
      | none => rw [q] at hs; cases hs
      | some j =>
        rw [q] at hs; cases hs
        obtain ⟨f, ⟨a, vs, f', ev, _⟩, _⟩ := r.top
        subst ev
        obtain ⟨vs, hh, hl, s1, r1⟩ := r.lput (j := j) (ixN_seq q).2.1
        exact .inl ⟨a, vs, i, j, rfl, sk.int, hh, by rw [hl]; exact q, k _ s1 r1⟩
    · cases hs
  · rename_i ks xs
    split at hs
    · rename_i kk hk
      split at hs
      · rename_i hz; cases hs
        obtain ⟨f, ⟨a, kvs, f', ev, _⟩, _⟩ := r.top
        subst ev
        obtain ⟨kvs, hh, ek, s1, r1⟩ := r.dput (k := kk)
        exact .inr ⟨a, _, rfl, by rw [sk.key hk]; exact DPut.k (k := kk) hh (by rw [← ek, List.length_map] at hz; exact hz), k _ s1 r1⟩
      · cases hs
    · cases hs
  · cases hs
/-- x[k] as a target, x a slot -/
def tSub (i : Nat) (dk : En → Rs Ar) : Tg := fun o e => match slot e i with
  | some _ => match dk e with
    | .ok x e2 => match x.get e2, slot e2 i with
      | some ko, some c => match c.store ko o with
        | some c' => some (putS e2 i c')
        | none => none
      | _, _ => none
    | _ => none
  | none => none
theorem hg_sub {i : Nat} {x : Str} {p : Pos} {ss : List Nat} {ke : Expr} {dk : En → Rs Ar} (hu : X.A.units + 1 < cLine) (hx : PE X (.Name x p) (tVar i)) (hk : HV X cl Wo ke dk)
    (ha : ∀ v, assign (.Subscript (.Name x p) ke pos) X.env v = (do
      let ov ← holding [v] (eval (.Name x p) X.env)
      let iv ← holding [v, ov] (eval ke X.env)
      standAt pos
      holding [v, ov, iv] (setItem ov iv v)
      release [v, ov, iv] []) := by intro _; rfl) : HG X cl (.Subscript (.Name x p) ke pos) ss (tSub i dk) :=
  PG.imp (pg_sub hx hk (set_any hu) ha) fun v σ H Q ⟨Z, F, P, e, T, o, r, k⟩ => by
    unfold tSub at k
    cases q0 : slot e i with
    | none => rw [q0] at k; exact k.elim
    | some c0 =>
      rw [q0] at k
      simp only at k
      obtain ⟨w, fw, hw, hro, _⟩ := slot_get r.pop q0
      refine ⟨w, hw, Z, F, P, e, (o, v) :: T, r, ?_⟩
      cases qk : dk e with
      | bad => rw [qk] at k; exact k.elim
      | exc c ps e1 => rw [qk] at k; exact k.elim
      | ok x e2 =>
        rw [qk] at k
        simp only at k
        intro u Z2 F2 H2 s2 r2 a2
        cases g1 : x.get e2 with
        | none => rw [g1] at k; exact k.elim
        | some ko =>
          cases g2 : slot e2 i with
          | none => rw [g1, g2] at k; exact k.elim
          | some c =>
            rw [g1, g2] at k
            simp only at k
            cases g3 : c.store ko o with
            | none => rw [g3] at k; exact k.elim
            | some c' =>
              rw [g3] at k
              simp only at k
              obtain ⟨su, r3⟩ := see_tmp r2 a2 g1
              obtain ⟨s, hs, hc⟩ := slot_some g2
              obtain ⟨w', hw', r4⟩ := r3.lend hs hc
              rw [hw] at hw'
              cases hw'
              refine r4.stO g3 su fun H' s5 r5 => ?_
              have r6 := RS.back r5 (i := i) (s := s.lent) (get_set_self hs) (by cases s <;> rfl) hw
              rw [set_set, lent_put hc] at r6
              have e5 : putS e2 i c' = e2.set i (s.put c') := by unfold putS; rw [modS_eq hs]
              rw [e5] at k
              exact k σ Z2 F2 H' .refl (s2.trans s5) r6
end
end MX

/-! MXe: enumerate, zip, reversed, range with a step, as denotations; list(range), tuple(range). -/
namespace MX
open PySem L2
section
variable {X : Cx} {cl : Cl} {Wo : WX} {pos : Pos}
variable {W : Wd} {Z F Z' F' : Addr → Prop} {P P' : Nat → V} {e : En} {T : Ts} {σ : L2.St} {H H' : Hp} {Q : VK}
theorem hi_range3 {tg a b c : Expr} {d} {p : Pos} (hg : Gl X "range") (hm : X.mg "range" = none) (ha : HVs X cl Wo [a, b, c] d) (hs : starEach [a, b, c] X.env = (false, eval a X.env) :: starEach [b, c] X.env := by rfl) (hpl : (backTo pos (starEach [b, c] X.env)).any (·.1) = false := by rfl) :
    HI X cl Wo tg (.Call (.Name "range" p) [a, b, c] [] pos) (iOps d gR3) :=
  PI.imp (pi_range3 hg hm ha hs hpl) fun σ H R h => rdOps h fun Z F P e T H1 os vs ds hf ss r k => by
    unfold gR3 at hf
    split at hf
    · rename_i i j c
      split at hf
      · rename_i hb; cases hf
        obtain ⟨v, u, w, rfl, s, s', s''⟩ := ss.three
        have h0 : 0 ≤ Builtin.Range.rangeSize i j c := by
          unfold Builtin.Range.rangeSize
          split
          · split
            · have : 0 ≤ (j - i - 1) / c := Int.ediv_nonneg (by omega) (by omega)
              omega
            · omega
          · split
            · have : 0 ≤ (i - j - 1) / (-c) := Int.ediv_nonneg (by omega) (by omega)
              omega
            · omega
        exact ⟨i, j, c, _, by rw [s.int, s'.int, s''.int], ⟨hb.1, hb.2.1, hb.2.2, (Int.toNat_of_nonneg h0).symm⟩, k _ itc_ok⟩
      · cases hf
    · cases hf
/-! ### over made values, all known -/
def seqD : D → Option (List D)
  | .lst ds => some ds
  | .tup ds => some ds
  | _ => none
def kindD : D → Bool
  | .tup _ => true
  | _ => false
theorem RD.seqD {d : D} {v : V} {ds : List D} (h : RD W H Z d v) (q : seqD d = some ds) : ∃ a vs, v = .ref a ∧ SqK W.K (kindD d) H a vs ∧ RDs W H Z ds vs := by
  cases d with
  | lst es =>
    have : es = ds := Option.some.inj q
    subst this
    obtain ⟨a, vs, e, hh, r⟩ := h
    exact ⟨a, vs, e, .inl hh.2, r⟩
  | tup es =>
    have : es = ds := Option.some.inj q
    subst this
    obtain ⟨a, vs, e, hh, r⟩ := h
    exact ⟨a, vs, e, hh.sq, r⟩
  | _ => cases q
def iAr (d : En → Rs (List O)) (f : List D → Option (List D)) : En → Rs (List D) := fun e => (d e).bind fun os e1 => match f (fzs os) with
  | some ds => .ok ds e1
  | none => .bad
theorem RS.freezeT {os : List O} {vs : List V} (hl : os.length = vs.length) (r : RS W Z F P e (os.zip vs ++ T) σ H) : ∃ Z' F', Stp Z F H Z' F' H ∧ RS W Z' F' P e (((fzs os).map O.d).zip vs ++ T) σ H ∧ RDs W H Z' (fzs os) vs := by
  obtain ⟨Z', F', s, r1, rd⟩ := r.freezeAll hl
  exact ⟨Z', F', s, ros_leaf rd r1, rd⟩
theorem rdAr {d : En → Rs (List O)} {f : List D → Option (List D)} {R : It → Hp → Prop} {K : List V → Hp → Prop} (h : rdI W Wo (iAr d f) σ H R)
    (hk : ∀ Z F P e T H1 es vs ds, f es = some ds → RDs W H1 Z es vs → RS W Z F P e ((es.map O.d).zip vs ++ T) σ H1 → (∀ J, ItOk W J ((es.map O.d).zip vs) ds → R J H1) → K vs H1) : rdA W Wo d σ H K := by
  obtain ⟨Z, F, P, e, T, r0, k⟩ := h
  refine ⟨Z, F, P, e, T, r0, ?_⟩
  unfold iAr at k
  cases qa : d e with
  | bad => rw [qa] at k; exact k
  | exc c ps e1 => rw [qa] at k; exact k
  | ok os e1 =>
    rw [qa] at k
    simp only [Rs.bind_ok] at k
    intro vs Z1 F1 H1 hl s1 r1
    cases qf : f (fzs os) with
    | none => rw [qf] at k; exact k.elim
    | some ds =>
      rw [qf] at k
      obtain ⟨Z2, F2, s2, r2, rd⟩ := r1.freezeT hl
      exact hk Z2 F2 P e1 T H1 (fzs os) vs ds qf rd r2 fun J hJ => k Z2 F2 H1 J _ (s1.trans s2) r2 hJ
/-- what is held of a leaf stands at each turn -/
theorem RS.topDs : ∀ {es : List D} {vs : List V} {T : Ts}, es.length = vs.length → RS W Z F P e ((es.map O.d).zip vs ++ T) σ H → RDs W H Z es vs
  | [], [], _, _, _ => rfl
  | [], _ :: _, _, h, _ => by cases h
  | _ :: _, [], _, h, _ => by cases h
  | x :: es, v :: vs, T, h, r => by
    have r' : RS W Z F P e ((.d x, v) :: ((es.map O.d).zip vs ++ T)) σ H := r
    exact ⟨v, vs, rfl, r'.topD, RS.topDs (Nat.succ.inj h) r'.pop⟩
/-! ### enumerate -/
def enumL : Nat → List D → List D
  | _, [] => []
  | n, d :: ds => .tup [.int (n : Int), d] :: enumL (n + 1) ds
theorem enumL_len : ∀ {n : Nat} {ds : List D}, (enumL n ds).length = ds.length
  | _, [] => rfl
  | n, d :: ds => by show (enumL (n + 1) ds).length + 1 = ds.length + 1; rw [enumL_len]
theorem enumL_get : ∀ {n : Nat} {ds : List D} {i : Nat} {d : D}, (enumL n ds)[i]? = some d → ∃ x, ds[i]? = some x ∧ d = .tup [.int ((n + i : Nat) : Int), x]
  | _, [], _, _, h => by simp [enumL] at h
  | n, x :: ds, 0, d, h => ⟨x, rfl, (Option.some.inj h).symm⟩
  | n, x :: ds, i + 1, d, h => by
    obtain ⟨y, h1, h2⟩ := enumL_get (n := n + 1) (ds := ds) (i := i) (d := d) h
    exact ⟨y, h1, by rw [h2, show n + 1 + i = n + (i + 1) by omega]⟩
def gEnum : List D → Option (List D)
  | [d] => (seqD d).map (enumL 0)
  | _ => none
theorem ite_ok {d : D} {a : Addr} {v : V} {ds : List D} (hv : v = .ref a) (hd : seqD d = some ds) : ItOk W (ItE W.K (kindD d) a) [(.d d, v)] (enumL 0 ds) := by
  intro i Z F P e T σ H r
  have r' : RS W Z F P e ((.d d, v) :: T) σ H := r
  obtain ⟨a', vs, ev, hq, rd⟩ := r'.topD.seqD hd
  rw [hv] at ev
  cases ev
  refine ⟨fun x hx => ?_, fun hle => ⟨vs, hq, by rw [hle, enumL_len, rd.len]⟩⟩
  obtain ⟨y, hy, rfl⟩ := enumL_get hx
  obtain ⟨w, hw, rw'⟩ := rd.get hy
  refine ⟨⟨vs, w, hq, hw⟩, fun x H' ⟨T', o', x', e1, e2, e0', e3, e4⟩ => ?_⟩
  have := e4 vs hq
  rw [hw] at this
  cases this
  subst e1 e3
  have e0 : ((0 + i : Nat) : Int) = (i : Int) := by simp
  rw [e0]
  exact ⟨Z, F, Stp.alloc e2, r.newT (ds := [.int (i : Int), y]) (vs := [.int (i : Int), w]) ⟨_, _, rfl, rfl, _, _, rfl, rw', rfl⟩ e2 e0'⟩
theorem hi_enum {a : Expr} {d} {p tpos : Pos} {elts : List Expr} {kk : Nat} (hg : Gl X "enumerate") (hm : X.mg "enumerate" = none) (ha : HA X cl Wo [a] d) (hs : starEach [a] X.env = [(false, eval a X.env)] := by rfl) :
    HI X cl Wo (.Tuple elts kk tpos) (.Call (.Name "enumerate" p) [a] [] pos) (iAr d gEnum) :=
  PI.imp (pi_e hg hm ha hs) fun σ H R h => rdAr h fun Z F P e T H1 es vs ds hf rd r k => by
    unfold gEnum at hf
    split at hf
    · rename_i d
      cases q : seqD d with
      | none => rw [q] at hf; cases hf
      | some ds0 =>
        rw [q] at hf; cases hf
        obtain ⟨v, rr, ev, h1, e2⟩ := rd
        have e2' : rr = [] := e2
        subst e2' ev
        obtain ⟨a, us, e3, hq, _⟩ := h1.seqD q
        exact ⟨kindD d, a, us, by rw [e3], hq, k _ (ite_ok e3 q)⟩
    · cases hf
/-! ### zip -/
def zipL : List D → List D → List D
  | a :: as, b :: bs => .tup [a, b] :: zipL as bs
  | _, _ => []
theorem zipL_len : ∀ {as bs : List D}, (zipL as bs).length = min as.length bs.length
  | [], bs => by simp [zipL]
  | a :: as, [] => by simp [zipL]
  | a :: as, b :: bs => by show (zipL as bs).length + 1 = min (as.length + 1) (bs.length + 1); rw [zipL_len]; omega
theorem zipL_get : ∀ {as bs : List D} {i : Nat} {d : D}, (zipL as bs)[i]? = some d → ∃ x y, as[i]? = some x ∧ bs[i]? = some y ∧ d = .tup [x, y]
  | [], bs, _, _, h => by simp [zipL] at h
  | a :: as, [], _, _, h => by simp [zipL] at h
  | a :: as, b :: bs, 0, d, h => ⟨a, b, rfl, rfl, (Option.some.inj h).symm⟩
  | a :: as, b :: bs, i + 1, d, h => zipL_get (as := as) (bs := bs) (i := i) h
def gZip : List D → Option (List D)
  | [d1, d2] => match seqD d1, seqD d2 with
    | some as, some bs => some (zipL as bs)
    | _, _ => none
  | _ => none
theorem itz_ok {d1 d2 : D} {a b : Addr} {as bs : List D} (h1 : seqD d1 = some as) (h2 : seqD d2 = some bs) : ItOk W (ItZ W.K (kindD d1) (kindD d2) a b) [(.d d1, .ref a), (.d d2, .ref b)] (zipL as bs) := by
  intro i Z F P e T σ H r
  have r' : RS W Z F P e ((.d d1, .ref a) :: (.d d2, .ref b) :: T) σ H := r
  obtain ⟨a', vs, ev, hq, rd⟩ := r'.topD.seqD h1
  cases ev
  obtain ⟨b', us, ev, hq2, rd2⟩ := r'.pop.topD.seqD h2
  cases ev
  refine ⟨fun x hx => ?_, fun hle => ⟨vs, us, hq, hq2, by rw [hle, zipL_len, rd.len, rd2.len]⟩⟩
  obtain ⟨y, z, hy, hz, rfl⟩ := zipL_get hx
  obtain ⟨w, hw, rw'⟩ := rd.get hy
  obtain ⟨w2, hw2, rw2⟩ := rd2.get hz
  refine ⟨⟨vs, us, w, w2, hq, hq2, hw, hw2⟩, fun x H' ⟨T', o', x', y', e1, e2, e0', e3, e4, e5⟩ => ?_⟩
  have := e4 vs hq
  rw [hw] at this
  cases this
  have := e5 us hq2
  rw [hw2] at this
  cases this
  subst e1 e3
  exact ⟨Z, F, Stp.alloc e2, r.newT (ds := [y, z]) (vs := [w, w2]) ⟨_, _, rfl, rw', _, _, rfl, rw2, rfl⟩ e2 e0'⟩
theorem hi_zip {a b : Expr} {d} {p tpos : Pos} {elts : List Expr} {kk : Nat} (hg : Gl X "zip") (hm : X.mg "zip" = none) (ha : HA X cl Wo [a, b] d)
    (hs : starEach [a, b] X.env = (false, eval a X.env) :: starEach [b] X.env := by rfl) (hpl : (backTo pos (starEach [b] X.env)).any (·.1) = false := by rfl) :
    HI X cl Wo (.Tuple elts kk tpos) (.Call (.Name "zip" p) [a, b] [] pos) (iAr d gZip) :=
  PI.imp (pi_z hg hm ha hs hpl) fun σ H R h => rdAr h fun Z F P e T H1 es vs ds hf rd r k => by
    unfold gZip at hf
    split at hf
    · rename_i d1 d2
      split at hf
      · rename_i as bs q1 q2; cases hf
        obtain ⟨v, rr, ev, h1, v2, rr2, ev2, h2, e2⟩ := rd
        have e2' : rr2 = [] := e2
        subst e2' ev2 ev
        obtain ⟨a, us, e3, hq, _⟩ := h1.seqD q1
        obtain ⟨b, us2, e4, hq2, _⟩ := h2.seqD q2
        subst e3 e4
        exact ⟨kindD d1, kindD d2, a, b, us, us2, rfl, hq, hq2, k _ (itz_ok q1 q2)⟩
      · cases hf
    · cases hf
/-! ### reversed -/
def iRev (d : En → Rs O) : En → Rs (List D) := fun e => (d e).bind fun o e1 => match seqD o.fz with
  | some ds => .ok ds.reverse e1
  | none => .bad
theorem rev_get {α : Type} {ds : List α} {i : Nat} {d : α} (h : ds.reverse[i]? = some d) : i < ds.length ∧ ds[ds.length - 1 - i]? = some d := by
  have hi : i < ds.length := by have := lt_of_get h; rw [List.length_reverse] at this; exact this
  rw [List.getElem?_reverse hi] at h
  exact ⟨hi, h⟩
theorem itv_ok {d : D} {a : Addr} {v : V} {ds : List D} {vs : List V} (hv : v = .ref a) (hd : seqD d = some ds) (hl : vs.length = ds.length) : (kindD d = false → ItOk W (Itv W.K a vs.length) [(.d d, v)] ds.reverse) ∧ (kindD d = true → ItOk W (RT.ItvT W.K a vs.length) [(.d d, v)] ds.reverse) := by
  refine ⟨fun hk i Z F P e T σ H r => ?_, fun hk i Z F P e T σ H r => ?_⟩
  all_goals
    have r' : RS W Z F P e ((.d d, v) :: T) σ H := r
    obtain ⟨a', us, ev, hq, rd⟩ := r'.topD.seqD hd
    rw [hv] at ev
    cases ev
    rw [hk] at hq
    refine ⟨fun x hx => ?_, fun hle => ?_⟩
    · obtain ⟨hi, hx⟩ := rev_get hx
      obtain ⟨w, hw, rw'⟩ := rd.get hx
      refine ⟨⟨by rw [hl]; exact hi, us, w, hq, by rw [hl]; exact hw⟩, fun x H' ⟨eH, hx'⟩ => ?_⟩
      subst eH
      have := hx' us hq
      rw [hl, hw] at this
      cases this
      exact ⟨Z, F, .refl, r.push rw'⟩
    · show vs.length ≤ i
      rw [hle, List.length_reverse, hl]
      exact Nat.le_refl _
theorem hi_rev {tg a : Expr} {d} {p : Pos} (hg : Gl X "reversed") (hm : X.mg "reversed" = none) (ha : HE X cl Wo a d) (hs : starEach [a] X.env = (false, eval a X.env) :: starEach [] X.env := by rfl) :
    HI X cl Wo tg (.Call (.Name "reversed" p) [a] [] pos) (iRev d) :=
  PI.imp (RT.pi_revA hg hm ha hs) fun σ H R ⟨Z, F, P, e, T, r0, k⟩ => by
    refine ⟨Z, F, P, e, T, r0, ?_⟩
    unfold iRev at k
    cases q : d e with
    | bad => rw [q] at k; exact k
    | exc c ps e1 => rw [q] at k; exact k
    | ok o e1 =>
      rw [q] at k
      simp only [Rs.bind_ok] at k
      intro v Z1 F1 H1 s1 r1
      cases q2 : seqD o.fz with
      | none => rw [q2] at k; exact k.elim
      | some ds =>
        rw [q2] at k
        obtain ⟨Z2, F2, s2, r2⟩ := r1.freeze
        obtain ⟨a, vs, ev, hq, rd⟩ := r2.topD.seqD q2
        have hl := rd.len
        refine ⟨a, vs, ev, ?_⟩
        cases hk : kindD o.fz with
        | false => rw [hk] at hq; exact .inl ⟨hq, k Z2 F2 H1 _ [(.d o.fz, v)] (s1.trans s2) r2 ((itv_ok ev q2 hl.symm).1 hk)⟩
        | true => rw [hk] at hq; exact .inr ⟨hq, k Z2 F2 H1 _ [(.d o.fz, v)] (s1.trans s2) r2 ((itv_ok ev q2 hl.symm).2 hk)⟩
/-- over a list or a tuple -/
def iAny (d : En → Rs O) : En → Rs (List D) := dOr (iSeq d) (iTupl d)
theorem hi_any {tg it : Expr} {d} (h : HE X cl Wo it d) : HI X cl Wo tg it (iAny d) := hi_alt (hi_list h) (hi_tup h)
/-! ### list(range(..)), tuple(range(..)) -/
def rgD (a b : Int) : List D := rangeD a (b - a).toNat
theorem rds_rg {a b : Int} : RDs W H Z (rgD a b) (rgV a b) := by
  unfold rgD rangeD rgV
  generalize (List.range (b - a).toNat) = l
  induction l with
  | nil => exact rfl
  | cons x l ih => exact ⟨_, _, rfl, rfl, ih⟩
def rgB (a b : Int) : Bool := inB a && inB b && decide ((b - a).toNat ≤ 2 ^ 24)
theorem rgB_of {a b : Int} (h : rgB a b = true) : RgOk a b := by
  unfold rgB at h
  rw [Bool.and_eq_true, Bool.and_eq_true] at h
  exact ⟨(inB_of h.1.1).1, (inB_of h.1.1).2, (inB_of h.1.2).1, (inB_of h.1.2).2, of_decide_eq_true h.2⟩
/-- a range as an argument -/
def RgD := En → Rs (Int × Int)
def rdRg (W : Wd) (Wo : WX) (d : En → Rs (Int × Int)) : L2.St → Hp → (Int → Int → Hp → Prop) → Prop := fun σ H R => ∃ Z F P e T, RS W Z F P e T σ H ∧ match d e with
  | .ok ab e' => ∀ Z' F' H', Stp Z F H Z' F' H' → RS W Z' F' P e' T σ H' → R ab.1 ab.2 H'
  | .exc c ps e' => XOk W Wo Z F P T σ H c ps e'
  | .bad => False
def HRg (X : Cx) (cl : Cl) (Wo : WX) (ex : Expr) (d : En → Rs (Int × Int)) : Prop := PRg X ex (rdRg (Cx.wd X cl) Wo d)
def rg1 (d : En → Rs Ar) : En → Rs (Int × Int) := fun e => (d e).bind fun x e1 => match x.get e1 with
  | some (.d (.int n)) => .ok (0, n) e1
  | _ => .bad
theorem PRg.imp {ex : Expr} {t t' : L2.St → Hp → (Int → Int → Hp → Prop) → Prop} (h : PRg X ex t) (k : ∀ σ H R, t' σ H R → t σ H R) : PRg X ex t' := fun pins s σ H R I q => h pins s σ H R I (k σ H R q)
theorem hrg_1 {a : Expr} {d} {p : Pos} (hg : Gl X "range") (hm : X.mg "range" = none) (ha : HV X cl Wo a d) (na : starEach [a] X.env = (false, eval a X.env) :: starEach [] X.env := by rfl) : HRg X cl Wo (.Call (.Name "range" p) [a] [] pos) (rg1 d) :=
  PRg.imp (prg_1 hg hm ha na) fun σ H R ⟨Z, F, P, e, T, r0, k⟩ => by
    refine ⟨Z, F, P, e, T, r0, ?_⟩
    unfold rg1 at k
    cases q : d e with
    | bad => rw [q] at k; exact k
    | exc c ps e1 => rw [q] at k; exact k
    | ok x e1 =>
      rw [q] at k
      simp only [Rs.bind_ok] at k
      intro v Z1 F1 H1 s1 r1 a1
      split at k
      · rename_i x e2 i h2
        split at h2
        · rename_i n hx
          cases h2
          obtain ⟨sv, r2⟩ := see_tmp r1 a1 hx
          exact ⟨n, sv.int, k Z1 F1 H1 s1 r2⟩
        · cases h2
      · rename_i h2
        split at h2 <;> cases h2
      · exact k.elim
def rg2 (d d2 : En → Rs Ar) : En → Rs (Int × Int) := fun e => (d e).bind fun x e1 => (d2 e1).bind fun y e2 => match x.get e2, y.get e2 with
  | some (.d (.int n)), some (.d (.int m)) => .ok (n, m) e2
  | _, _ => .bad
theorem hrg_2 {a b : Expr} {d d2} {p : Pos} (hg : Gl X "range") (hm : X.mg "range" = none) (ha : HV X cl Wo a d) (hb : HV X cl Wo b d2) (na : starEach [a, b] X.env = (false, eval a X.env) :: starEach [b] X.env := by rfl)
    (nb : starEach [b] X.env = (false, eval b X.env) :: starEach [] X.env := by rfl) (hp : (backTo pos (starEach [b] X.env)).any (·.1) = false := by rfl) : HRg X cl Wo (.Call (.Name "range" p) [a, b] [] pos) (rg2 d d2) :=
  PRg.imp (prg_2 hg hm ha hb na nb hp) fun σ H R ⟨Z, F, P, e, T, r0, k⟩ => by
    refine ⟨Z, F, P, e, T, r0, ?_⟩
    unfold rg2 at k
    cases q : d e with
    | bad => rw [q] at k; exact k
    | exc c ps e1 => rw [q] at k; exact k
    | ok x e1 =>
      rw [q] at k
      simp only [Rs.bind_ok] at k
      intro v Z1 F1 H1 s1 r1 a1
      refine ⟨Z1, F1, P, e1, x.tmp v ++ T, r1, ?_⟩
      cases q2 : d2 e1 with
      | bad => rw [q2] at k; exact k.elim
      | exc c ps e' => rw [q2] at k; exact XOk.pops (XOk.step s1 k)
      | ok y e2 =>
        rw [q2] at k
        simp only [Rs.bind_ok] at k
        intro u Z2 F2 H2 s2 r2 a2
        cases g1 : x.get e2 with
        | none => rw [g1] at k; exact k.elim
        | some a =>
          cases g2 : y.get e2 with
          | none => rw [g1, g2] at k; cases a <;> first | exact k.elim | (rename_i z; cases z <;> exact k.elim)
          | some b =>
            rw [g1, g2] at k
            obtain ⟨sb, r3⟩ := see_tmp r2 a2 g2
            obtain ⟨sa, r4⟩ := see_tmp r3 a1 g1
            cases a with
            | d za =>
              cases za with
              | int n =>
                cases b with
                | d zb =>
                  cases zb with
                  | int m => exact ⟨n, m, sa.int, sb.int, k Z2 F2 H2 (s1.trans s2) r4⟩
                  | _ => exact k.elim
                | _ => exact k.elim
              | _ => exact k.elim
            | _ => exact k.elim
def dLRg (d : En → Rs (Int × Int)) : En → Rs O := fun e => (d e).bind fun ab e1 => if rgB ab.1 ab.2 = true then .ok (.lst ((rgD ab.1 ab.2).map .d)) e1 else .bad
def dTRg (d : En → Rs (Int × Int)) : En → Rs O := fun e => (d e).bind fun ab e1 => if rgB ab.1 ab.2 = true then .ok (.d (.tup (rgD ab.1 ab.2))) e1 else .bad
theorem he_listRg {ex : Expr} {d} {p : Pos} (hc : X.calm = true) (hg : Gl X "list") (hm : X.mg "list" = none) (h : HRg X cl Wo ex d) (na : starEach [ex] X.env = (false, eval ex X.env) :: starEach [] X.env := by rfl) : HE X cl Wo (.Call (.Name "list" p) [ex] [] pos) (dLRg d) :=
  PE.imp (pe_listRg hc hg hm h na) fun σ H Q ⟨Z, F, P, e, T, r0, k⟩ => by
    refine ⟨Z, F, P, e, T, r0, ?_⟩
    unfold dLRg at k
    cases q : d e with
    | bad => rw [q] at k; exact k
    | exc c ps e1 => rw [q] at k; exact k
    | ok ab e1 =>
      rw [q] at k
      simp only [Rs.bind_ok] at k
      intro Z1 F1 H1 s1 r1
      by_cases hb' : rgB ab.1 ab.2 = true
      · rw [if_pos hb'] at k
        exact ⟨rgB_of hb', fun p hp => k _ _ _ _ (s1.trans (Stp.allocF hp)) (r1.newL rds_rg hp)⟩
      · rw [if_neg hb'] at k; exact k.elim
theorem he_tupRg {ex : Expr} {d} {p : Pos} (hc : X.calm = true) (hg : Gl X "tuple") (hm : X.mg "tuple" = none) (h : HRg X cl Wo ex d) (na : starEach [ex] X.env = (false, eval ex X.env) :: starEach [] X.env := by rfl) : HE X cl Wo (.Call (.Name "tuple" p) [ex] [] pos) (dTRg d) :=
  PE.imp (pe_tupRgN hc hg hm h na) fun σ H Q ⟨Z, F, P, e, T, r0, k⟩ => by
    refine ⟨Z, F, P, e, T, r0, ?_⟩
    unfold dTRg at k
    cases q : d e with
    | bad => rw [q] at k; exact k
    | exc c ps e1 => rw [q] at k; exact k
    | ok ab e1 =>
      rw [q] at k
      simp only [Rs.bind_ok] at k
      intro Z1 F1 H1 s1 r1
      by_cases hb' : rgB ab.1 ab.2 = true
      · rw [if_pos hb'] at k
        exact ⟨rgB_of hb', fun p o hp ho => k _ _ _ _ (s1.trans (Stp.alloc hp)) (r1.newT rds_rg hp ho)⟩
      · rw [if_neg hb'] at k; exact k.elim
end
end MX

/-! MXf: sorted, index, dict displays. -/
namespace MX
open PySem L2 PySem.Spec PyProof.Rows
section
open SrtO
variable {prog : Program} {w : World} {A : Around} {E : Value → Shared → Prop} {s : Shared}
theorem sorted_seq {k : Bool} {l : Addr} {vs : List Value} {ltv : Value → Value → Bool} {Q : Value → Shared → Prop} (O : Swo ltv) (hl : SqO k s.heap l vs.toArray) (hz : vs.length ≤ sizeLine)
    (hS : 2 ≤ vs.length → ∀ (h₁ : Heap) (a : Addr), h₁.get? a = some (seqObj "list" vs.toArray 0) → (∀ b o, s.heap.get? b = some o → b ≠ a ∧ h₁.get? b = some o) → SortableO prog w A.in1.in1 { s with heap := h₁ } a vs ltv)
    (h : ∀ (h1 h' : Heap) (a : Addr) (out : List Value), Srtd ltv out → Stb ltv out vs → (∀ b o, s.heap.get? b = some o → h1.get? b = some o) → (∀ b o, h1.get? b = some o → h'.get? b = some o) → h1.objs.size ≤ a → (∃ e, h'.get? a = some (seqObj "list" out.toArray e)) → Q (.ref a) { s with heap := h' }) :
    wpAny (model prog w) A (call (.builtin "sorted") [.ref l]) Q E s := by
  refine Calls.call_function_entry kind_sorted plain_sorted entry_sorted (args_sorted1 _) ?_
  unfold Builtin.«sorted»
  refine wpAny_bind (m := checkCount "sorted" 1 1 _) (wpAny_pure ?_)
  have key : ∃ T o n, (T = "list" ∨ T = "tuple") ∧ s.heap.get? l = some o ∧ o.cls = .type T ∧ o.data = .seq vs.toArray n := by
    cases k
    · obtain ⟨o, ho, hc, n, hd⟩ := hl
      exact ⟨_, o, n, .inl rfl, ho, hc, hd⟩
    · obtain ⟨o, ho, hc, n, hd⟩ := hl
      exact ⟨_, o, n, .inr rfl, ho, hc, hd⟩
  obtain ⟨T, o, n, hT, ho, hc, hd⟩ := key
  refine wpAny_bind (wpAny_collect_seq l hT ho hc hd (fun h1 hk => ?_) (by rw [List.size_toArray]; exact hz))
  show wpAny _ _ _ _ _ _
  refine wpAny_bind (wpAny_newList ?_ hz)
  have hoL : (h1.push (seqObj "list" vs.toArray 0)).get? h1.objs.size = some (seqObj "list" vs.toArray 0) := Heap.get?_push_size _ rfl
  have keep : ∀ b o, s.heap.get? b = some o → b ≠ h1.objs.size ∧ (h1.push (seqObj "list" vs.toArray 0)).get? b = some o := fun b o q => by
    have q1 := hk b o q
    exact ⟨Nat.ne_of_lt (Heap.lt_size q1), Heap.get?_push_of_some _ q1⟩
  refine wpAny_bind (wpAny_holding (wpAny_call_entry slot_list_sort ⟨_, hoL, rfl⟩ entry_list_sort (list_sort_ord O hoL hz (fun h2 => hS h2 _ _ hoL keep) fun out hs hb => ⟨_, rfl, ?_⟩) (args_list_sort _)))
  refine wpAny_pure ⟨_, rfl, ?_⟩
  refine h h1 _ _ out hs hb hk (fun b o q => ?_) (Nat.le_refl _) (sortedHeap_at hoL)
  have hlt : b < h1.objs.size := Heap.lt_size q
  rw [sortedHeap_old (Nat.ne_of_lt hlt) (by rw [Heap.size_push]; exact Nat.lt_succ_of_lt hlt)]
  exact Heap.get?_push_of_some _ q
end
section
variable {X : Cx}
def rSortedK (K : PySem.W.Frag) : List V → Hp → VK → Prop := fun vs H Q => ∃ (k : Bool) (a : Addr) (ns : List Int), vs = [V.ref a] ∧ SqK K k H a (ns.map V.int) ∧
  ∀ (ns' : List Int) (p : Addr), ns'.Perm ns → ns'.Pairwise (· ≤ ·) → H p = none → Q (.ref p) (upd H p (.lst (ns'.map V.int)))
theorem cr_sortedK : CallR X (.builtin "sorted") (rSortedK X.K) := by
  intro pins s σ H vs us Q I r h
  obtain ⟨k, a, ns, rfl, hs, q⟩ := h
  have hz : ns.length ≤ sizeLine := by
    cases k
    · obtain ⟨its, rv, hl, hz⟩ := I.list hs
      rw [List.length_map] at hz; exact hz
    · obtain ⟨its, rv, hl, hz⟩ := I.tuple hs
      rw [List.length_map] at hz; exact hz
  obtain ⟨its, rv, hl, hlt⟩ := inv_sq I hs
  rw [Vals.ref1 r]
  have hi := rv.ints
  have hlen := rv.length
  rw [List.length_map] at hlen
  refine sorted_seq SrtO.swo_int hl (by rw [← hlen]; exact hz) (fun h2 h₁ a' _ _ => SrtO.ints_sortable hi h2) fun h1 h' p out o1 o2 k1 k2 hp he => ?_
  obtain ⟨e1, e2, e3⟩ := SrtO.ints_out hi o1 o2
  obtain ⟨ep, he'⟩ := he
  have I1 : Inv X pins σ H { s with heap := h1 } := I.kept (t' := s.toks) k1
  have hl2 : ((out.map SrtO.iv).map V.int).length ≤ sizeLine := by
    rw [List.length_map, e2.length_eq]
    exact hz
  exact ⟨.ref _, upd H p (.lst ((out.map SrtO.iv).map V.int)), I1.laid (t' := s.toks) k2 hp ⟨hl2, out, ep, vals_of_ints e1, he'⟩, rfl, q _ _ e2 e3 (I1.hok.fresh hp)⟩
end
section
variable {X : Cx} {cl : Cl} {Wo : WX} {pos : Pos}
variable {W : Wd} {Z F Z' F' : Addr → Prop} {P P' : Nat → V} {e : En} {T : Ts} {σ : L2.St} {H H' : Hp} {Q : VK}
def O.seqInts (o : O) : Option (List Int) := match o.items with
  | some ds => intsD ds
  | none => none
def insI (x : Int) : List Int → List Int
  | [] => [x]
  | y :: ys => if x ≤ y then x :: y :: ys else y :: insI x ys
def sortI : List Int → List Int
  | [] => []
  | x :: xs => insI x (sortI xs)
theorem insI_perm {x : Int} : ∀ {ys : List Int}, (insI x ys).Perm (x :: ys)
  | [] => .refl _
  | y :: ys => by
    unfold insI
    split
    · exact .refl _
    · exact (List.Perm.cons y insI_perm).trans (List.Perm.swap x y ys)
theorem sortI_perm : ∀ {xs : List Int}, (sortI xs).Perm xs
  | [] => .refl _
  | x :: xs => (insI_perm).trans (List.Perm.cons x sortI_perm)
theorem insI_sorted {x : Int} : ∀ {ys : List Int}, ys.Pairwise (· ≤ ·) → (insI x ys).Pairwise (· ≤ ·)
  | [], _ => List.pairwise_singleton _ _
  | y :: ys, h => by
    obtain ⟨h1, h2⟩ := List.pairwise_cons.mp h
    unfold insI
    split
    · rename_i q
      exact List.pairwise_cons.mpr ⟨fun z hz => (List.mem_cons.mp hz).elim (fun e => by rw [e]; exact q) fun m => Int.le_trans q (h1 z m), h⟩
    · rename_i q
      exact List.pairwise_cons.mpr ⟨fun z hz => (List.mem_cons.mp (insI_perm.mem_iff.mp hz)).elim (fun e => by rw [e]; omega) fun m => h1 z m, insI_sorted h2⟩
theorem sortI_sorted : ∀ {xs : List Int}, (sortI xs).Pairwise (· ≤ ·)
  | [] => .nil
  | x :: xs => insI_sorted sortI_sorted
theorem sorted_uniq : ∀ {xs ys : List Int}, xs.Perm ys → xs.Pairwise (· ≤ ·) → ys.Pairwise (· ≤ ·) → xs = ys := fun p h1 h2 =>
  List.Perm.eq_of_pairwise (le := (· ≤ ·)) (fun a b _ _ h h' => Int.le_antisymm h h') h1 h2 p
def fSorted : O → Option O := fun o => o.seqInts.map fun ns => .lst ((sortI ns).map fun i => .d (.int i))
theorem ints_rds : ∀ {ns : List Int}, RDs W H Z (ns.map D.int) (ns.map V.int)
  | [] => rfl
  | n :: ns => ⟨_, _, rfl, rfl, ints_rds⟩
theorem See.sqk {o : O} {v : V} {ds : List D} (h : See W H Z o v) (q : o.items = some ds) : ∃ k a vs, v = .ref a ∧ SqK W.K k H a vs ∧ RDs W H Z ds vs := by
  obtain ⟨a, vs, e, h1, r⟩ := h.seq q
  rcases h1 with h1 | h1
  · exact ⟨false, a, vs, e, h1, r⟩
  · exact ⟨true, a, vs, e, h1, r⟩
theorem cSorted : CallOk W (on1 fSorted) (rSortedK W.K) := by
  intro Z F P e T σ H os z vs Q hf ss rs k
  obtain ⟨o, rfl, hg⟩ := on1_some hf
  clear hf
  obtain ⟨v, rfl, s⟩ := ss.one
  unfold fSorted O.seqInts at hg
  cases q : o.items with
  | none => rw [q] at hg; cases hg
  | some ds =>
    rw [q] at hg
    simp only at hg
    cases q2 : intsD ds with
    | none => rw [q2] at hg; cases hg
    | some ns =>
      rw [q2] at hg; cases hg
      obtain ⟨kk, a, us, e, h1, r⟩ := s.sqk q
      have eu := intsD_rds q2 r
      subst eu
      refine ⟨kk, a, ns, by rw [e], h1, fun ns' p hp hs hn => ?_⟩
      have : ns' = sortI ns := sorted_uniq (hp.trans sortI_perm.symm) hs sortI_sorted
      subst this
      have := rs.newL (ds := (sortI ns).map D.int) ints_rds hn
      rw [List.map_map] at this
      exact k _ _ _ _ (Stp.allocF hn) this
/-! ### methods that look -/
def rIdx (K : PySem.W.Frag) : V → List V → Hp → VK → Prop := fun x xs H Q => ∃ (k : Bool) (a : Addr) (ns : List Int) (i : Int), x = .ref a ∧ xs = [.int i] ∧ SqK K k H a (ns.map V.int) ∧ i ∈ ns ∧ Q (.int (ns.idxOf i : Nat)) H
theorem mt_tupIdx : MtR X "tuple.index" (fun x xs H Q => ∃ (a : Addr) (ns : List Int) (i : Int), x = .ref a ∧ xs = [.int i] ∧ SqT X.K H a (ns.map V.int) ∧ i ∈ ns ∧ Q (.int (ns.idxOf i : Nat)) H) := by
  intro pins s σ H x xs v us Q I rx rv h
  obtain ⟨a, ns, i, rfl, rfl, hq, hm, q⟩ := h
  cases rx
  obtain ⟨u, rfl, ru⟩ := vals1 rv
  obtain ⟨t, rfl⟩ := ru
  obtain ⟨its, r, p, hz⟩ := I.tuple hq
  exact SeqAt.tuple_index_ints p r.ints hm ⟨.int (ns.idxOf i : Nat), H, I.tok _, ⟨_, rfl⟩, q⟩
theorem mt_lstIdx : MtR X "list.index" (fun x xs H Q => ∃ (a : Addr) (ns : List Int) (i : Int), x = .ref a ∧ xs = [.int i] ∧ SqL X.K H a (ns.map V.int) ∧ i ∈ ns ∧ Q (.int (ns.idxOf i : Nat)) H) := by
  intro pins s σ H x xs v us Q I rx rv h
  obtain ⟨a, ns, i, rfl, rfl, hq, hm, q⟩ := h
  cases rx
  obtain ⟨u, rfl, ru⟩ := vals1 rv
  obtain ⟨t, rfl⟩ := ru
  obtain ⟨its, r, p, hz⟩ := I.list hq
  rw [List.length_map] at hz
  exact SeqAt.list_index_ints p.isList r.ints hz hm ⟨.int (ns.idxOf i : Nat), H, I.tok _, ⟨_, rfl⟩, q⟩
/-- the receiver's type -/
def tyN (K : PySem.W.Frag) (T : String) (x : V) (H : Hp) : Prop := tyV K T x H ∨ (T = "tuple" ∧ ∃ a vs, x = .ref a ∧ TupAt K H a vs)
theorem tyN_is {pins : List (Addr × Obj)} {s : Shared} {T : String} {x : V} {v : Value} (I : Inv X pins σ H s) (r : RelV x v) (ty : tyN X.K T x H) :
    s.TypeIs v T ∧ ∀ a, v = .ref a → ∃ ob, s.heap.get? a = some ob ∧ ob.dict = none := by
  rcases ty with ty | ⟨rfl, a, vs, rfl, h⟩
  · exact tyV_is I r ty
  · obtain rfl : v = .ref a := r
    obtain ⟨h1, h2⟩ := h.nd I
    exact ⟨h1, fun b e => by cases e; exact h2⟩
def tBN (K : PySem.W.Frag) (T : String) (r : V → List V → Hp → VK → Prop) (to : TE) (t : TA) : TE := fun σ H Q => to σ H fun x H1 => tyN K T x H1 ∧ t σ H1 fun xs H2 => r x xs H2 Q
theorem pe_bn {o ex : Expr} {es : List Expr} {to : TE} {t : TA} {name : Str} {apos cpos : Pos} {T id : String} {r : V → List V → Hp → VK → Prop} (pa : PlainAttrs T) (slot : Slot T name id) (hty : typeOf (.builtin id) = pure (.type "method_descriptor")) (hm : MtR X id r) (ho : PE X o to) (ha : PA X (ex :: es) t)
    (hbase : attributeBase o name X.env (eval o X.env) = eval o X.env := by rfl)
    (hfew : ((backTo cpos (starEach (ex :: es) X.env)).all (fun x => !x.1) && (backToKw cpos (keywordEach [] X.env)).all (fun x => x.1.isSome)
      && decide ((ex :: es).length + ([] : List Keyword).length + (if ([] : List Keyword).isEmpty then 0 else 1) < 30)) = true := by rfl)
    (hline : (apos.endLine == cpos.line) = true := by rfl) (hs : starEach (ex :: es) X.env = (false, eval ex X.env) :: starEach es X.env := by rfl) (hplain : (backTo cpos (starEach es X.env)).any (·.1) = false := by rfl) :
    PE X (.Call (.Attribute o name apos) (ex :: es) [] cpos) (tBN X.K T r to t) := by
  refine ⟨fun pins s σ H Q I h => ?_⟩
  refine wpAny_Call_method_late hbase hfew hline rfl (thn (ho.run pins s σ H _ I h) fun v s1 ⟨x, H1, I1, r1, ty, q1⟩ => ?_)
  obtain ⟨h1, h2⟩ := tyN_is I1 r1 ty
  refine ⟨T, id, pa, slot, hty, h1, h2, ?_⟩
  have hA := ha.run cpos pins s1 σ H1 _ I1 q1
  rw [hs] at hA ⊢
  refine Calls.callWith_builtin (by show (false || (backTo cpos (starEach es X.env)).any (·.1)) = false; rw [hplain] <;> rfl) (Calls.evalArgs_plain ?_)
  exact thn hA fun us s2 ⟨vs, H2, I2, r2, q2⟩ => hm pins s2 σ H2 x vs v us Q I2 r1 r2 q2
/-- what a value's type is, as a method's receiver -/
def O.ty : O → String
  | .lst _ => "list"
  | .dic _ _ => "dict"
  | .d (.lst _) => "list"
  | .d (.tup _) => "tuple"
  | .d (.dic _ _) => "dict"
  | .d (.str _) => "str"
  | .d (.int _) => "int"
  | _ => ""
theorem See.ty {o : O} {v : V} {T : String} (h : See W H Z o v) (q : o.ty = T) (hne : T ≠ "") (hd : T ≠ "dict") : tyN W.K T v H := by
  subst q
  cases o with
  | lst os => obtain ⟨f, a, vs, f', rfl, hh, _⟩ := h; exact .inl (.inl ⟨rfl, vs, .inl (.inl hh)⟩)
  | dic ks xs => exact absurd rfl hd
  | obj c ns xs => exact absurd rfl hne
  | d x =>
    cases x with
    | lst xs => obtain ⟨a, vs, rfl, hh, _⟩ := h.d; exact .inl (.inl ⟨rfl, vs, .inl hh.2⟩)
    | tup xs => obtain ⟨a, vs, rfl, hh, _⟩ := h.d; exact .inr ⟨rfl, a, vs, rfl, hh⟩
    | str s => rw [h.str]; exact .inl rfl
    | int s => rw [h.int]; exact .inl rfl
    | dic ks xs => exact absurd rfl hd
    | _ => exact absurd rfl hne
/-- x.m(..) that looks at x and the arguments -/
def MethOk (W : Wd) (f : O → List O → Option O) (r : V → List V → Hp → VK → Prop) : Prop :=
  ∀ Z F P e T σ H a os z v vs Q, f a os = some z → See W H Z a v → Sees W H Z os vs → RS W Z F P e T σ H → (∀ w Z' F' H', Stp Z F H Z' F' H' → RS W Z' F' P e ((z, w) :: T) σ H' → Q w H') → r v vs H Q
def dMeth (T : String) (f : O → List O → Option O) (da : En → Rs Ar) (d : En → Rs (List Ar)) : En → Rs O := fun e => (da e).bind fun x e1 => match x.get e1 with
  | some a0 => if a0.ty = T then (d e1).bind fun xs e2 => match x.get e2, gets e2 xs with
    | some a, some os => fin (f a os) e2
    | _, _ => .bad
    else .bad
  | none => .bad
theorem rdMeth {Tn : String} {f} {r : V → List V → Hp → VK → Prop} {da : En → Rs Ar} {d : En → Rs (List Ar)} (hf : MethOk W f r) (hne : Tn ≠ "") (hd : Tn ≠ "dict") (h : rdE W Wo (dMeth Tn f da d) σ H Q) :
    tBN W.K Tn r (rdV W Wo da) (rdVs W Wo d) σ H Q := by
  obtain ⟨Z, F, P, e, T, r0, k⟩ := h
  refine ⟨Z, F, P, e, T, r0, ?_⟩
  unfold dMeth at k
  cases qa : da e with
  | bad => rw [qa] at k; exact k
  | exc c ps e' => rw [qa] at k; exact k
  | ok x e1 =>
    intro v Z1 F1 H1 s1 r1 a1
    rw [qa] at k
    simp only [Rs.bind_ok] at k
    cases g0 : x.get e1 with
    | none => rw [g0] at k; exact k.elim
    | some a0 =>
      rw [g0] at k
      simp only at k
      by_cases ht : a0.ty = Tn
      · rw [if_pos ht] at k
        obtain ⟨sa0, _⟩ := see_tmp r1 a1 g0
        refine ⟨sa0.ty ht hne hd, Z1, F1, P, e1, x.tmp v ++ T, r1, ?_⟩
        cases qb : d e1 with
        | bad => rw [qb] at k; exact k
        | exc c ps e' => rw [qb] at k; exact XOk.pops (XOk.step s1 k)
        | ok xs e2 =>
          rw [qb] at k
          simp only [Rs.bind_ok] at k
          intro vs Z2 F2 H2 hl s2 r2 a2
          cases gx : x.get e2 with
          | none => rw [gx] at k; exact k.elim
          | some a =>
            cases gy : gets e2 xs with
            | none => rw [gx, gy] at k; exact k.elim
            | some os =>
              rw [gx, gy] at k
              obtain ⟨ss, r3⟩ := sees_tmps hl r2 a2 gy
              obtain ⟨sa, r4⟩ := see_tmp r3 a1 gx
              cases qz : f a os with
              | none => simp only [fin, qz] at k; exact k.elim
              | some z =>
                simp only [fin, qz] at k
                exact hf Z2 F2 P e2 T σ H2 a os z v vs Q qz sa ss r4 fun w Z' F' H' s3 r5 => k w Z' F' H' ((s1.trans s2).trans s3) r5
      · rw [if_neg ht] at k; exact k.elim
theorem he_meth {o ex : Expr} {es : List Expr} {name : Str} {apos cpos : Pos} {T id : String} {r : V → List V → Hp → VK → Prop} {f} {da d} (hf : MethOk (Cx.wd X cl) f r) (pa : PlainAttrs T) (slot : Slot T name id) (hty : typeOf (.builtin id) = pure (.type "method_descriptor")) (hm : MtR X id r) (ho : HV X cl Wo o da) (ha : HVs X cl Wo (ex :: es) d)
    (hne : T ≠ "" := by decide) (hd : T ≠ "dict" := by decide)
    (hbase : attributeBase o name X.env (eval o X.env) = eval o X.env := by rfl)
    (hfew : ((backTo cpos (starEach (ex :: es) X.env)).all (fun x => !x.1) && (backToKw cpos (keywordEach [] X.env)).all (fun x => x.1.isSome)
      && decide ((ex :: es).length + ([] : List Keyword).length + (if ([] : List Keyword).isEmpty then 0 else 1) < 30)) = true := by rfl)
    (hline : (apos.endLine == cpos.line) = true := by rfl) (hs : starEach (ex :: es) X.env = (false, eval ex X.env) :: starEach es X.env := by rfl) (hplain : (backTo cpos (starEach es X.env)).any (·.1) = false := by rfl) :
    HE X cl Wo (.Call (.Attribute o name apos) (ex :: es) [] cpos) (dMeth T f da d) :=
  PE.imp (pe_bn pa slot hty hm ho ha hbase hfew hline hs hplain) fun σ H Q h => rdMeth hf hne hd h
def fIndex (a : O) (os : List O) : Option O := match a.seqInts, os with
  | some ns, [.d (.int i)] => if i ∈ ns then some (.d (.int (ns.idxOf i : Nat))) else none
  | _, _ => none
def fTupIdx (a : O) (os : List O) : Option O := if a.ty = "tuple" then fIndex a os else none
def fLstIdx (a : O) (os : List O) : Option O := if a.ty = "list" then fIndex a os else none
theorem mTupIndex : MethOk W fTupIdx (fun x xs H Q => ∃ (a : Addr) (ns : List Int) (i : Int), x = .ref a ∧ xs = [.int i] ∧ SqT W.K H a (ns.map V.int) ∧ i ∈ ns ∧ Q (.int (ns.idxOf i : Nat)) H) := by
  intro Z F P e T σ H a os z v vs Q hf sa ss rs k
  unfold fTupIdx at hf
  split at hf
  · rename_i ht
    unfold fIndex at hf
    split at hf
    · rename_i ns i hn
      split at hf
      · rename_i hm; cases hf
        obtain ⟨u, rfl, su⟩ := ss.one
        unfold O.seqInts at hn
        cases q : a.items with
        | none => rw [q] at hn; cases hn
        | some ds =>
          rw [q] at hn
          cases a with
          | d x =>
            cases x with
            | tup es =>
              obtain ⟨p, us, e1, h1, r1⟩ := sa.tuple (ds := ds) q
              have eu := intsD_rds hn r1
              subst eu
              exact ⟨p, ns, i, e1, by rw [su.int], h1, hm, done_leaf (x := .int (ns.idxOf i : Nat)) rs (fun _ _ => rfl) k⟩
            | _ => exact absurd ht (by simp [O.ty])
          | _ => exact absurd ht (by simp [O.ty])
      · cases hf
    · cases hf
  · cases hf
theorem mLstIndex : MethOk W fLstIdx (fun x xs H Q => ∃ (a : Addr) (ns : List Int) (i : Int), x = .ref a ∧ xs = [.int i] ∧ SqL W.K H a (ns.map V.int) ∧ i ∈ ns ∧ Q (.int (ns.idxOf i : Nat)) H) := by
  intro Z F P e T σ H a os z v vs Q hf sa ss rs k
  unfold fLstIdx at hf
  split at hf
  · rename_i ht
    unfold fIndex at hf
    split at hf
    · rename_i ns i hn
      split at hf
      · rename_i hm; cases hf
        obtain ⟨u, rfl, su⟩ := ss.one
        unfold O.seqInts at hn
        cases q : a.items with
        | none => rw [q] at hn; cases hn
        | some ds =>
          rw [q] at hn
          have fin : ∀ (q' : a.ls = some ds), ∃ (a : Addr) (ns : List Int) (i' : Int), v = .ref a ∧ [u] = [.int i'] ∧ SqL W.K H a (ns.map V.int) ∧ i' ∈ ns ∧ Q (.int (ns.idxOf i' : Nat)) H := fun q' => by
            obtain ⟨p, us, e1, h1, r1⟩ := sa.list (ds := ds) q'
            have eu := intsD_rds hn r1
            subst eu
            exact ⟨p, ns, i, e1, by rw [su.int], h1, hm, done_leaf (x := .int (ns.idxOf i : Nat)) rs (fun _ _ => rfl) k⟩
          cases a with
          | lst os => exact fin q
          | d x =>
            cases x with
            | lst es => exact fin q
            | _ => exact absurd ht (by simp [O.ty])
          | _ => exact absurd ht (by simp [O.ty])
      · cases hf
    · cases hf
  · cases hf
end
end MX

/-! MXg: comprehensions with two for-s. -/
namespace MX
open PySem L2
section
variable {X : Cx} {cl : Cl} {Wo : WX} {pos : Pos}
variable {W : Wd} {Z F Z' F' : Addr → Prop} {P P' : Nat → V} {e : En} {T : Ts} {σ : L2.St} {H H' : Hp} {Q : VK}
theorem wipe_absorb {σ : L2.St} {us vs : List Nat} (h : ∀ u ∈ us, u ∈ vs) : L2.wipe (L2.wipe σ us) vs = L2.wipe σ vs := by
  have key : ∀ (ws : List Nat) (τ : L2.St) (u : Nat), u ∈ ws → L2.wipe (τ.set u none) ws = L2.wipe τ ws := by
    intro ws
    induction ws with
    | nil => exact fun _ _ h => nomatch h
    | cons w ws ih =>
      intro τ u hu
      show (L2.wipe (τ.set u none) ws).set w none = (L2.wipe τ ws).set w none
      by_cases q : u ∈ ws
      · rw [ih τ u q]
      · have hw : u = w := (List.mem_cons.mp hu).resolve_right q
        subst hw
        have gen : ∀ (zs : List Nat) (τ : L2.St), (L2.wipe (τ.set u none) zs).set u none = (L2.wipe τ zs).set u none := by
          intro zs
          induction zs with
          | nil => intro τ; show (τ.set u none).set u none = τ.set u none; rw [List.set_set]
          | cons z zs ih2 =>
            intro τ
            show ((L2.wipe (τ.set u none) zs).set z none).set u none = ((L2.wipe τ zs).set z none).set u none
            by_cases q2 : z = u
            · subst q2
              rw [ih2 τ]
            · rw [List.set_comm _ _ q2, ih2 τ, List.set_comm _ _ (Ne.symm q2)]
        exact gen ws τ
  induction us with
  | nil => rfl
  | cons u us ih =>
    show L2.wipe ((L2.wipe σ us).set u none) vs = L2.wipe σ vs
    rw [key vs _ u (h u List.mem_cons_self), ih fun w hw => h w (List.mem_cons_of_mem _ hw)]
theorem lc_inner {ds : List D} {vs : List Nat} {t : Tg} {c : En → Rs Bool} {el : En → Rs O} {J : It} {T2 TT : Ts} {σ : L2.St} {D : Addr} {Nx : Hp → Prop} (hJ : ItOk W J T2 ds) {acc : List O} (hel : e.length = σ.length) (hwe : wipeE e vs = e)
    (r : RS W Z F P e (T2 ++ ((.lst acc, .ref D) :: TT)) (L2.wipe σ vs) H) {acc' : List O} {e4 : En} (k : lcL vs t c el ds acc e = .ok (.lst acc') e4)
    (kn : ∀ Z' F' H', Stp Z F H Z' F' H' → RS W Z' F' P e4 (T2 ++ ((.lst acc', .ref D) :: TT)) (L2.wipe σ vs) H' → Nx H') :
    ∃ W1 : Nat → Nat → Hp → Prop, (∃ m, W1 0 m H) ∧ ∀ j k H, W1 j k H → (J.stop j H ∧ Nx H) ∨ (J.go j H ∧ ∃ Nx1 : Hp → Prop, (∀ H', Nx1 H' → ∃ k', k' < k ∧ W1 (j + 1) k' H') ∧ ∀ x H', J.yld j H x H' →
      rdG W vs t x (L2.wipe σ vs) H' fun σ3 H5 => L2.wipe σ3 vs = L2.wipe σ vs ∧ rdT W Wf c σ3 H5 fun b H6 => if b = true then rdE W Wf el σ3 H6 fun y H7 => ∃ acc, H7 D = some (.lst acc) ∧ acc.length < sizeLine ∧ Nx1 (upd H7 D (.lst (acc ++ [y]))) else Nx1 H6) := by
  refine ⟨fun i m H' => i + m = ds.length ∧ ∃ Z1 F1 e acc, Stp Z F H Z1 F1 H' ∧ e.length = σ.length ∧ wipeE e vs = e ∧ RS W Z1 F1 P e (T2 ++ ((.lst acc, .ref D) :: TT)) (L2.wipe σ vs) H' ∧ lcL vs t c el (ds.drop i) acc e = .ok (.lst acc') e4, ⟨ds.length, Nat.zero_add _, Z, F, e, acc, .refl, hel, hwe, r, k⟩, ?_⟩
  rintro i m H1 ⟨him, Z1, F1, e1, acc1, s1, hel1, hwe1, r1, k1⟩
  obtain ⟨hgo, hstop⟩ := hJ i Z1 F1 P e1 ((.lst acc1, .ref D) :: TT) (L2.wipe σ vs) H1 r1
  by_cases hi : i < ds.length
  · right
    have hd : ds[i]? = some ds[i] := List.getElem?_eq_getElem hi
    rw [List.drop_eq_getElem_cons hi] at k1
    unfold lcL at k1
    refine ⟨(hgo _ hd).1, fun H' => i + 1 + (m - 1) = ds.length ∧ ∃ Z1 F1 e acc, Stp Z F H Z1 F1 H' ∧ e.length = σ.length ∧ wipeE e vs = e ∧ RS W Z1 F1 P e (T2 ++ ((.lst acc, .ref D) :: TT)) (L2.wipe σ vs) H' ∧ lcL vs t c el (ds.drop (i + 1)) acc e = .ok (.lst acc') e4, fun H' h => ⟨m - 1, by omega, h⟩, fun x H' hy => ?_⟩
    obtain ⟨Z2, F2, s2, r2⟩ := (hgo _ hd).2 x H' hy
    refine ⟨Z2, F2, P, e1, T2 ++ ((.lst acc1, .ref D) :: TT), .d ds[i], r2, ?_⟩
    cases qt : t (.d ds[i]) e1 with
    | none => rw [qt] at k1; cases k1
    | some e2 =>
      rw [qt] at k1
      simp only at k1 ⊢
      intro σ3 Z3 F3 H3 k3 s3 r3
      have hw : L2.wipe σ3 vs = L2.wipe σ vs := (wipe_kps k3).trans (wipe_absorb fun _ h => h)
      have hσ3 : σ3.length = σ.length := by rw [k3.1, wipe_length]
      refine ⟨hw, Z3, F3, P, e2, _, r3, ?_⟩
      cases qc : c e2 with
      | bad => rw [qc] at k1; cases k1
      | exc c ps e' => rw [qc] at k1; cases k1
      | ok b e3 =>
        rw [qc] at k1
        intro Z4 F4 H4 s4 r4
        cases b with
        | false =>
          refine iteF ?_
          simp only at k1
          refine ⟨by omega, Z4, F4, wipeE e3 vs, acc1, ((s1.trans s2).trans s3).trans s4, by rw [wipeE_len, ← r4.elen, hσ3], wipeE_idem, ?_, k1⟩
          rw [← hw]; exact r4.wipe vs
        | true =>
          refine iteT ⟨Z4, F4, P, e3, _, r4, ?_⟩
          simp only at k1
          cases qe : el e3 with
          | bad => rw [qe] at k1; cases k1
          | exc c ps e' => rw [qe] at k1; cases k1
          | ok o e5 =>
            rw [qe] at k1
            simp only at k1
            intro y Z5 F5 H5 s5 r5
            split at k1
            · rename_i hz
              have r6 : RS W Z5 F5 P e5 ((o, y) :: (.lst acc1, .ref D) :: (T2 ++ TT)) σ3 H5 := r5.perm (List.Perm.cons _ List.perm_middle)
              obtain ⟨us, hh, hlu, s6, r7⟩ := r6.app
              refine ⟨us, hh, by rw [hlu]; exact hz, by omega, Z5, F5, wipeE e5 vs, acc1 ++ [o], ((((s1.trans s2).trans s3).trans s4).trans s5).trans s6, by rw [wipeE_len, ← r5.elen, hσ3], wipeE_idem, ?_, k1⟩
              rw [← hw]
              exact (r7.perm (T' := T2 ++ ((.lst (acc1 ++ [o]), .ref D) :: TT)) List.perm_middle.symm).wipe vs
            · cases k1
  · left
    have hge : ds.length ≤ i := Nat.le_of_not_lt hi
    rw [List.drop_of_length_le hge] at k1
    have e5 : Rs.ok (O.lst acc1) e1 = Rs.ok (.lst acc') e4 := k1
    cases e5
    exact ⟨hstop (by omega), kn Z1 F1 H1 s1 r1⟩
def lc2L (vs : List Nat) (t : Tg) (c : En → Rs Bool) (it1 : En → Rs (List D)) (vs1 : List Nat) (t1 : Tg) (c1 : En → Rs Bool) (el : En → Rs O) : List D → List O → En → Rs O
  | [], acc, e => .ok (.lst acc) e
  | d :: ds, acc, e => match t (.d d) e with
    | none => .bad
    | some e1 => match c e1 with
      | .ok true e2 => match it1 e2 with
        | .ok ds1 e3 => match lcL vs1 t1 c1 el ds1 acc (wipeE e3 vs1) with
          | .ok (.lst acc') e4 => lc2L vs t c it1 vs1 t1 c1 el ds acc' (wipeE e4 vs)
          | _ => .bad
        | _ => .bad
      | .ok false e2 => lc2L vs t c it1 vs1 t1 c1 el ds acc (wipeE e2 vs)
      | _ => .bad
def dLc2 (it : En → Rs (List D)) (vs : List Nat) (t : Tg) (c : En → Rs Bool) (it1 : En → Rs (List D)) (vs1 : List Nat) (t1 : Tg) (c1 : En → Rs Bool) (el : En → Rs O) : En → Rs O := fun e => (it e).bind fun ds e1 => lc2L vs t c it1 vs1 t1 c1 el ds [] (wipeE e1 vs)
theorem rdLc2 {it : En → Rs (List D)} {vs vs1 : List Nat} {t t1 : Tg} {c c1 : En → Rs Bool} {it1 : En → Rs (List D)} {el : En → Rs O} (hv : ∀ i ∈ vs1, i ∈ vs) (h : rdE W Wo (dLc2 it vs t c it1 vs1 t1 c1 el) σ H Q) :
    tLc2 (rdI W Wo it) (rdG W vs t) (rdT W Wf c) (rdI W Wf it1) (rdG W vs1 t1) (rdT W Wf c1) (rdE W Wf el) vs vs1 σ H Q := by
  obtain ⟨Z, F, P, e, T, r0, k⟩ := h
  refine ⟨Z, F, P, e, T, r0, ?_⟩
  unfold dLc2 at k
  cases qi : it e with
  | bad => rw [qi] at k; exact k
  | exc c ps e1 => rw [qi] at k; exact k
  | ok ds e1 =>
    rw [qi] at k
    simp only [Rs.bind_ok] at k
    intro Z1 F1 H1 J T2 s1 r1 hJ D hD
    have hlen : σ.length = e1.length := r1.elen
    have r2 : RS W Z1 (fun a => F1 a ∨ a = D) P e1 (T2 ++ ((.lst [], .ref D) :: T)) σ (upd H1 D (.lst [])) := by
      have := r1.newL (ds := []) (vs := []) rfl hD
      exact this.perm List.perm_middle.symm
    refine ⟨fun i m H => i + m = ds.length ∧ ∃ Z F e acc, e.length = σ.length ∧ wipeE e vs = e ∧ RS W Z F P e (T2 ++ ((.lst acc, .ref D) :: T)) (L2.wipe σ vs) H ∧ PostE W Wo Z F P T σ H Q (lc2L vs t c it1 vs1 t1 c1 el (ds.drop i) acc e), ⟨ds.length, Nat.zero_add _, Z1, _, wipeE e1 vs, [], by rw [wipeE_len, hlen], wipeE_idem, r2.wipe vs, ?_⟩, ?_⟩
    · have s2 : Stp Z F H Z1 (fun a => F1 a ∨ a = D) (upd H1 D (.lst [])) := s1.trans (Stp.allocF hD)
      cases q : lc2L vs t c it1 vs1 t1 c1 el ds [] (wipeE e1 vs) with
      | bad => rw [q] at k; exact k.elim
      | exc c ps e' => rw [List.drop_zero, q]; rw [q] at k; exact XOk.step s2 k
      | ok o e' => rw [List.drop_zero, q]; rw [q] at k; exact fun v Z' F' H' s3 r3 => k v Z' F' H' (s2.trans s3) r3
    · rintro i m H ⟨him, Z, F, e, acc, hel, hwe, r, k⟩
      obtain ⟨hgo, hstop⟩ := hJ i Z F P e ((.lst acc, .ref D) :: T) (L2.wipe σ vs) H r
      by_cases hi : i < ds.length
      · right
        have hd : ds[i]? = some ds[i] := List.getElem?_eq_getElem hi
        rw [List.drop_eq_getElem_cons hi] at k
        unfold lc2L at k
        refine ⟨(hgo _ hd).1, fun H' => i + 1 + (m - 1) = ds.length ∧ ∃ Z F e acc, e.length = σ.length ∧ wipeE e vs = e ∧ RS W Z F P e (T2 ++ ((.lst acc, .ref D) :: T)) (L2.wipe σ vs) H' ∧ PostE W Wo Z F P T σ H' Q (lc2L vs t c it1 vs1 t1 c1 el (ds.drop (i + 1)) acc e), fun H' h => ⟨m - 1, by omega, h⟩, fun x H' hy => ?_⟩
        obtain ⟨Z2, F2, s2, r2⟩ := (hgo _ hd).2 x H' hy
        refine ⟨Z2, F2, P, e, T2 ++ ((.lst acc, .ref D) :: T), .d ds[i], r2, ?_⟩
        cases qt : t (.d ds[i]) e with
        | none => rw [qt] at k; exact k.elim
        | some e2 =>
          rw [qt] at k
          simp only at k ⊢
          intro σ3 Z3 F3 H3 k3 s3 r3
          have hw : L2.wipe σ3 vs = L2.wipe σ vs := (wipe_kps k3).trans (wipe_absorb fun _ h => h)
          have hσ3 : σ3.length = σ.length := by rw [k3.1, wipe_length]
          refine ⟨hw, Z3, F3, P, e2, T2 ++ ((.lst acc, .ref D) :: T), r3, ?_⟩
          cases qc : c e2 with
          | bad => rw [qc] at k; exact k.elim
          | exc c ps e' => rw [qc] at k; exact k.elim
          | ok b e3 =>
            rw [qc] at k
            intro Z4 F4 H4 s4 r4
            cases b with
            | false =>
              refine iteF ?_
              simp only at k
              refine ⟨by omega, Z4, F4, wipeE e3 vs, acc, by rw [wipeE_len, ← r4.elen, hσ3], wipeE_idem, ?_, ?_⟩
              · rw [← hw]; exact r4.wipe vs
              · have s5 := (s2.trans s3).trans s4
                cases q : lc2L vs t c it1 vs1 t1 c1 el (ds.drop (i + 1)) acc (wipeE e3 vs) with
                | bad => rw [q] at k; exact k.elim
                | exc c ps e' => rw [q] at k; exact XOk.step s5 k
                | ok o e' => rw [q] at k; exact fun v Z' F' H' s3 r3 => k v Z' F' H' (s5.trans s3) r3
            | true =>
              refine iteT ⟨Z4, F4, P, e3, T2 ++ ((.lst acc, .ref D) :: T), r4, ?_⟩
              simp only at k
              cases q1 : it1 e3 with
              | bad => rw [q1] at k; exact k.elim
              | exc c ps e' => rw [q1] at k; exact k.elim
              | ok ds1 e4 =>
                rw [q1] at k
                simp only at k ⊢
                intro Z5 F5 H5 J1 T3 s5 r5 hJ1
                cases qn : lcL vs1 t1 c1 el ds1 acc (wipeE e4 vs1) with
                | bad => rw [qn] at k; exact k.elim
                | exc c ps e' => rw [qn] at k; exact k.elim
                | ok oo e5 =>
                  rw [qn] at k
                  cases oo with
                  | lst acc' =>
                    simp only at k
                    have r6 : RS W Z5 F5 P e4 (T3 ++ ((.lst acc, .ref D) :: (T2 ++ T))) σ3 H5 := r5.perm (List.Perm.append_left _ List.perm_middle)
                    refine lc_inner hJ1 (by rw [wipeE_len, ← r5.elen]) wipeE_idem (r6.wipe vs1) qn fun Z6 F6 H6 s6 r7 => ⟨by omega, Z6, F6, wipeE e5 vs, acc', ?_, wipeE_idem, ?_, ?_⟩
                    · rw [wipeE_len, ← r7.elen, wipe_length, hσ3]
                    · have r8 := (r7.appPop.perm (T' := T2 ++ ((.lst acc', .ref D) :: T)) List.perm_middle.symm).wipe vs
                      rw [wipe_absorb hv, hw] at r8
                      exact r8
                    · have s7 := (((s2.trans s3).trans s4).trans s5).trans s6
                      cases q : lc2L vs t c it1 vs1 t1 c1 el (ds.drop (i + 1)) acc' (wipeE e5 vs) with
                      | bad => rw [q] at k; exact k.elim
                      | exc c ps e' => rw [q] at k; exact XOk.step s7 k
                      | ok o e' => rw [q] at k; exact fun v Z' F' H' s3 r3 => k v Z' F' H' (s7.trans s3) r3
                  | _ => exact k.elim
      · left
        have hge : ds.length ≤ i := Nat.le_of_not_lt hi
        rw [List.drop_of_length_le hge] at k
        refine ⟨hstop (by omega), k (.ref D) Z F H .refl ?_⟩
        have r1 := r.appPop
        rw [← hwe] at r1 ⊢
        exact r1.unwipe hel.symm
theorem he_lc2 {elt tg iter tg1 iter1 : Expr} {ifs ifs1 : List Expr} {scope : Scope} {own : List (Str × Nat)} {vs1 : List Nat} {di di1} {t t1 : Tg} {dc dc1} {de} (hv : ∀ i ∈ vs1, i ∈ own.map (·.2))
    (h : PE X (.ListComp elt [⟨tg, iter, ifs, 0⟩, ⟨tg1, iter1, ifs1, 0⟩] scope pos) (tLc2 (rdI (Cx.wd X cl) Wo di) (rdG (Cx.wd X cl) (own.map (·.2)) t) (rdT (Cx.wd X cl) Wf dc) (rdI (Cx.wd X cl) Wf di1) (rdG (Cx.wd X cl) vs1 t1) (rdT (Cx.wd X cl) Wf dc1) (rdE (Cx.wd X cl) Wf de) (own.map (·.2)) vs1)) :
    HE X cl Wo (.ListComp elt [⟨tg, iter, ifs, 0⟩, ⟨tg1, iter1, ifs1, 0⟩] scope pos) (dLc2 di (own.map (·.2)) t dc di1 vs1 t1 dc1 de) := PE.imp h fun σ H Q h => rdLc2 hv h
end
end MX

/-! MXh: raise, try, isinstance of the caught error. -/
namespace MX
open PySem L2 PySem.Spec PyProof.Rows
section
variable {X : Cx} {cl : Cl} {Wo : WX} {pos : Pos}
variable {W W' : Wd} {Z F Z' F' : Addr → Prop} {P P' : Nat → V} {e : En} {T : Ts} {σ : L2.St} {H H' : Hp} {Q : VK}
/-- X() -/
theorem pmk_own0 {C : Addr} {bmB : List Value} {B newId initId : String} {x : Str} {p pos : Pos} (F : ExcBaseFacts B newId initId bmB) (q : PySem.W.excIn X.K C bmB newId = true) (gC : X.mg x = some (.ref C)) (kC : PySem.W.keepIn X.K (.ref C) = true) (r : Raises X (.ref C)) (hg : Gl X x)
    (hdb : (x == ("__debug__" : Str)) = false := by decide) : PMk X (.Call (.Name x p) [] [] pos) (fun _ H Q => Q (.ref C) none H) := by
  intro pins s σ H Q I h
  refine wpAny_Call_Name_kw (ld_glob I hg gC ?_ hdb)
  refine PySem.W.callWith_K0 I.kIn kC ?_
  show wpAny _ _ (call (.ref C) []) _ _ _
  obtain ⟨bm, N, nm, qn, bs, hdct, sn, sub, ab, col, dd, k0, k1, k2, k3, k5, mN, hC, hN, hni, T⟩ := exc_obj I.kIn q
  refine wpAny_call_exc_subT F T hC hN hni (fun h' e hm => ?_) (Nat.zero_le _)
  exact mk_of I hm r h (I.hok.gone hm.new)
def sRaise (c : String) : En → Out := fun e => .exc c [] e
theorem hs_raise {ex : Expr} {C : Addr} {c : String} (hc : X.calm = true) (tk : Takes X Wo) (he : PMk X ex (fun _ H Q => Q (.ref C) none H)) (hcl : cl.f c = some C) : HS X cl Wo (.Raise (some ex) none pos) (sRaise c) :=
  PS.imp (ps_raise hc tk he) fun D σ H ⟨Z, F, P, e, T, r, k⟩ => k σ Z F H C none hcl (.inl ⟨rfl, rfl⟩) .refl r
/-! ### moving between suites -/
theorem RS.mv (r : RS W Z F P e T σ H) (k : Wx W W') (pin : ∀ (i : Nat) (s : Sl), e[i]? = some s → s.pinned = true → σ[i]? = some (some (P' i))) (px : ∀ (i : Nat) (a : Addr), W'.ex = some (i, a) → P' i = .ref a) : RS W' Z F P' e T σ H := by
  obtain ⟨⟨fe, ft, h1, h2, nd, hF⟩, sep, zin, fin, _, _⟩ := r
  exact ⟨⟨fe, ft, h1.wx k _ _ _, h2.wx k _ _ _, nd, hF⟩, sep, zin, fin, pin, px⟩
theorem RS.enter (r : RS W Z F P e T σ H) (k : Wx W W') {i : Nat} {a : Addr} (hi : i < e.length) (hx : W'.ex = some (i, a)) : RS W' Z F (fun j => if j = i then .ref a else P j) (e.set i .pn) T (σ.set i (some (.ref a))) H := by
  have r1 := r.forget i (some (.ref a))
  have hσ : i < σ.length := by rw [r.elen]; exact hi
  obtain ⟨⟨fe, ft, h1, h2, nd, hF⟩, sep, zin, fin, pin, _⟩ := r1
  have he : (e.set i .pn).map Sl.cont = (e.set i .no).map Sl.cont := by rw [map_set_cont, map_set_cont]; rfl
  refine ⟨⟨fe, ft, by rw [he]; exact h1.wx k _ _ _, h2.wx k _ _ _, nd, hF⟩, sep, zin, fin, fun j s hj hp => ?_, fun j b hb => ?_⟩
  · by_cases q : j = i
    · subst q
      rw [List.getElem?_set_self hσ, if_pos rfl]
    · rw [if_neg q]
      rw [List.getElem?_set_ne (Ne.symm q)] at hj
      exact pin j s (by rw [List.getElem?_set_ne (Ne.symm q)]; exact hj) hp
  · rw [hx] at hb
    cases hb
    rw [if_pos rfl]
theorem RS.leave {i : Nat} {a : Addr} (r : RS W' Z F (fun j => if j = i then .ref a else P j) e T σ H) (k : Wx W' W) (x : Option V) (px : ∀ (i : Nat) (a : Addr), W.ex = some (i, a) → P i = .ref a) : RS W Z F P (e.set i .no) T (σ.set i x) H := by
  have r1 := r.forget i x
  refine r1.mv k (fun j s hj hp => ?_) px
  have := r1.pin j s hj hp
  by_cases q : j = i
  · subst q
    rw [List.getElem?_set] at hj
    simp only [if_true] at hj
    split at hj
    · cases hj; cases hp
    · cases hj
  · rw [if_neg q] at this
    exact this
def Out.unslot (i : Nat) : Out → Out
  | .nx e => .nx (e.set i .no)
  | .rt o e => .rt o (e.set i .no)
  | .bk e => .bk (e.set i .no)
  | .ct e => .ct (e.set i .no)
  | _ => .bad
/-- try: db; except X as n: hd (n's slot is i) -/
def sTryAs (i : Nat) (sub : String → Option Bool) (db : En → Out) (hd : String → En → Out) : En → Out := fun e => match db e with
  | .exc c ps e1 => match sub c with
    | some true => if (ps.isEmpty && decide (i < e1.length)) = true then (hd c (e1.set i .pn)).unslot i else .bad
    | some false => .exc c ps e1
    | none => .bad
  | r => r
theorem set_cur {σ : L2.St} {i : Nat} : σ.set i (σ[i]?.getD none) = σ := by
  refine List.ext_getElem? fun j => ?_
  rw [List.getElem?_set]
  by_cases q : i = j
  · subst q
    simp only [if_true]
    split
    · rename_i h
      rw [List.getElem?_eq_getElem h]; rfl
    · rename_i h
      rw [List.getElem?_eq_none (by omega)]
  · simp [q]
theorem hs_try_as {x n : Str} {cv : Value} {i : Nat} {body suite : List Stmt} {b₀ : Stmt} {np pos' : Pos} {sub : String → Option Bool} {db : En → Out} {hd : String → En → Out} (hs : X.stack = X.env :: X.outer) (hf : X.env.frame = some X.env.locals) (hN : X.N.Nodup) (hi : X.N[i]? = some n) (hln : X.env.kindOf n = some .local) (hc : Names X x cv) (tk : Takes X Wo)
    (hsub : ∀ c C b, cl.f c = some C → sub c = some b → PySem.W.exmOne X.K (.ref C) cv = some b)
    (hb : ∀ (W' : WX) (pn : List (Addr × Obj)) (xe : Value → Shared → Prop), Takes (X.tr pn xe) W' → PassesOwn (model X.prog X.w) X.A X.env xe → HSs (X.tr pn xe) cl W' body db)
    (hh : ∀ (c : String) (C a : Addr) (oe : Obj) (pn : List (Addr × Obj)), cl.f c = some C → Zc (.ref C) none oe → (∃ vs, oe.data = .fields vs) → HSs (X.suite a ((a, oe) :: pn)) ⟨cl.f, some (i, a)⟩ Wf (b₀ :: suite) (hd c)) :
    HS X cl Wo (.Try body [.ExceptHandler (some (.Name x np)) (some n) (b₀ :: suite) pos'] [] [] pos) (sTryAs i sub db hd) :=
  PS.imp (ps_try_as (tb := fun W' => rdS (Cx.wd X cl) W' db) (ts := fun a cls d D σ H => ∃ c C, cls = .ref C ∧ cl.f c = some C ∧ d = none ∧ rdS ⟨X.K, cl.f, some (i, a)⟩ Wf (hd c) D σ H) hs hf hN hi hln hc tk hb
    (fun a oe cls d pn hz hfl => ⟨fun pins s σ H D I ⟨c, C, ec, hcl, ed, q⟩ => (hh c C a oe pn hcl (by rw [← ec, ← ed]; exact hz) hfl).run pins s σ H D I q⟩))
  fun D σ H ⟨Z, F, P, e, T, r, k⟩ => by
    refine ⟨Z, F, P, e, T, r, ?_⟩
    unfold sTryAs at k
    cases q : db e with
    | nx e1 => rw [q] at k; exact k
    | rt o e1 => rw [q] at k; exact k
    | bk e1 => rw [q] at k; exact k
    | ct e1 => rw [q] at k; exact k
    | bad => rw [q] at k; exact k
    | exc c ps e1 =>
      rw [q] at k
      simp only at k
      intro σ1 Z1 F1 H1 C dd hcl py s1 r1
      cases q2 : sub c with
      | none => rw [q2] at k; exact k.elim
      | some b =>
        rw [q2] at k
        refine ⟨b, hsub c C b hcl q2, fun hb a ha => ?_, fun hb => ?_⟩
        · subst hb
          simp only at k
          split at k
          · rename_i hlt'
            rw [Bool.and_eq_true] at hlt'
            have hlt := of_decide_eq_true hlt'.2
            have hps : ps = [] := List.isEmpty_iff.mp hlt'.1
            have hdd : dd = none := by
              rcases py with ⟨_, e⟩ | ⟨_, _, e, _⟩
              · exact e
              · exact absurd hps e
            refine ⟨c, C, rfl, hcl, hdd, Z1, F1, _, e1.set i .pn, T, r1.enter (W' := ⟨X.K, cl.f, some (i, a)⟩) ⟨rfl, rfl⟩ hlt rfl, ?_⟩
            have k2 := PostS.step s1 k
            cases q3 : hd c (e1.set i .pn) with
            | nx e2 => rw [q3] at k2; exact fun σ2 Z2 F2 H2 s2 r2 => k2 _ Z2 F2 H2 s2 (r2.leave (W := Cx.wd X cl) ⟨rfl, rfl⟩ none r1.px)
            | bk e2 => rw [q3] at k2; exact fun σ2 Z2 F2 H2 s2 r2 => k2 _ Z2 F2 H2 s2 (r2.leave (W := Cx.wd X cl) ⟨rfl, rfl⟩ none r1.px)
            | ct e2 => rw [q3] at k2; exact fun σ2 Z2 F2 H2 s2 r2 => k2 _ Z2 F2 H2 s2 (r2.leave (W := Cx.wd X cl) ⟨rfl, rfl⟩ none r1.px)
            | rt o e2 =>
              rw [q3] at k2
              exact fun v σ2 Z2 F2 H2 s2 r2 => k2 v _ Z2 F2 H2 s2 (r2.leave (W := Cx.wd X cl) ⟨rfl, rfl⟩ none r1.px)
            | exc c ps e2 => rw [q3] at k2; exact k2.elim
            | bad => rw [q3] at k2; exact k2.elim
          · exact k.elim
        · subst hb
          exact k σ1 Z1 F1 H1 C dd hcl py s1 r1
/-- try: db; except X1: h1; except X2: h2 .. -/
def sTryM (db : En → Out) : List ((String → Option Bool) × (String → En → Out)) → En → Out
  | hs => fun e => match db e with
    | .exc c ps e1 => go c ps e1 hs
    | r => r
where go (c : String) (ps : List (Str × D)) (e1 : En) : List ((String → Option Bool) × (String → En → Out)) → Out
  | [] => .exc c ps e1
  | (sub, hd) :: r => match sub c with
    | some true => match hd c e1 with
      | .exc _ _ _ => .bad
      | o => o
    | some false => go c ps e1 r
    | none => .bad
inductive HHs (X : Cx) (cl : Cl) : List ExceptHandler → List ((String → Option Bool) × (String → En → Out)) → Prop
  | nil : HHs X cl [] []
  | cons {x : Str} {cv : Value} {b₀ : Stmt} {suite : List Stmt} {np pos' : Pos} {hds : List ExceptHandler} {l : List ((String → Option Bool) × (String → En → Out))} {sub : String → Option Bool} {hd : String → En → Out} (hc : Names X x cv)
      (hsub : ∀ c C b, cl.f c = some C → sub c = some b → PySem.W.exmOne X.K (.ref C) cv = some b)
      (hh : ∀ (c : String) (C a : Addr) (oe : Obj) (d : Option Addr) (pn : List (Addr × Obj)), cl.f c = some C → Zc (.ref C) d oe → (∃ vs, oe.data = .fields vs) → HSs (X.suite a ((a, oe) :: pn)) cl Wf (b₀ :: suite) (hd c)) (r : HHs X cl hds l) :
      HHs X cl (.ExceptHandler (some (.Name x np)) none (b₀ :: suite) pos' :: hds) ((sub, hd) :: l)
/-- the clauses' wishes, as readings -/
theorem hhs_of {hds : List ExceptHandler} {l} (h : HHs X cl hds l) : ∃ l' : List (Value × (Addr → Value → Option Addr → TS)), HdsOk X hds l' ∧
    ∀ (DE : Ends) (Z F : Addr → Prop) (P : Nat → V) (T : Ts) (H0 : Hp) (c : String) (ps : List (Str × D)) (e1 : En), PostS (Cx.wd X cl) Wo Z F P T H0 DE (sTryM.go c ps e1 l) → ∀ σ, XOk (Cx.wd X cl) (wMany X.K Wo DE l') Z F P T σ H0 c ps e1 := by
  induction h with
  | nil => exact ⟨[], .nil, fun D Z F P T H0 c ps e1 k => k⟩
  | @cons x cv b₀ suite np pos' hds l sub hd hc hsub hh r ih =>
    obtain ⟨l', h1, h2⟩ := ih
    refine ⟨(cv, fun a cls d D σ H => ∃ c C, cls = .ref C ∧ cl.f c = some C ∧ rdS (Cx.wd X cl) Wf (hd c) D σ H) :: l', .cons hc (fun a oe cls d pn hz hfl => ⟨fun pins s σ H D I ⟨c, C, ec, hcl, q⟩ => (hh c C a oe d pn hcl (by rw [← ec]; exact hz) hfl).run pins s σ H D I q⟩) h1, ?_⟩
    intro D Z F P T H0 c ps e1 k σ Z1 F1 H1 C dd hcl py s1 r1
    unfold sTryM.go at k
    cases q2 : sub c with
    | none => rw [q2] at k; exact k.elim
    | some b =>
      rw [q2] at k
      refine ⟨b, hsub c C b hcl q2, fun hb a ha => ?_, fun hb => ?_⟩
      · subst hb
        simp only at k
        refine ⟨c, C, rfl, hcl, Z1, F1, P, e1, T, r1, ?_⟩
        have k2 := PostS.step s1 k
        cases q3 : hd c e1 with
        | exc c ps e2 => rw [q3] at k2; exact k2.elim
        | nx e2 => rw [q3] at k2; exact k2
        | rt o e2 => rw [q3] at k2; exact k2
        | bk e2 => rw [q3] at k2; exact k2
        | ct e2 => rw [q3] at k2; exact k2
        | bad => rw [q3] at k2; exact k2
      · subst hb
        exact h2 D Z F P T H0 c ps e1 k σ Z1 F1 H1 C dd hcl py s1 r1
theorem hs_try {body : List Stmt} {h₀ : ExceptHandler} {hds : List ExceptHandler} {l} {db : En → Out} (hs : X.stack = X.env :: X.outer) (hf : X.env.frame = some X.env.locals) (tk : Takes X Wo)
    (hb : ∀ (W' : WX) (pn : List (Addr × Obj)) (xe : Value → Shared → Prop), Takes (X.tr pn xe) W' → PassesOwn (model X.prog X.w) X.A X.env xe → HSs (X.tr pn xe) cl W' body db)
    (hh : HHs X cl (h₀ :: hds) l) : HS X cl Wo (.Try body (h₀ :: hds) [] [] pos) (sTryM db l) := by
  obtain ⟨l', hok, hw⟩ := hhs_of (Wo := Wo) hh
  exact PS.imp (ps_try_many (tb := fun W' => rdS (Cx.wd X cl) W' db) hs hf tk hb hok) fun D σ H ⟨Z, F, P, e, T, r, k⟩ => by
    refine ⟨Z, F, P, e, T, r, ?_⟩
    unfold sTryM at k
    cases q : db e with
    | nx e1 => rw [q] at k; exact k
    | rt o e1 => rw [q] at k; exact k
    | bk e1 => rw [q] at k; exact k
    | ct e1 => rw [q] at k; exact k
    | bad => rw [q] at k; exact k
    | exc c ps e1 =>
      rw [q] at k
      exact hw D Z F P T H c ps e1 k
/-! ### isinstance(e, X) in the suite -/
def dIsE (i : Nat) (b : Bool) : En → Rs O := fun e => match e[i]? with
  | some .pn => .ok (.d (.bl b)) e
  | _ => .bad
theorem he_isE {a C : Addr} {oe : Obj} {pn : List (Addr × Obj)} {i : Nat} {x y : Str} {n p p2 pos : Pos} {cv : V} {cu : Value} {b : Bool} (hE : ExcC X.K C) (hz : Zc (.ref C) none oe) (hfl : ∃ vs, oe.data = .fields vs) (hg : Gl (X.suite a ((a, oe) :: pn)) "isinstance") (hm : X.mg "isinstance" = none)
    (hx : PE (X.suite a ((a, oe) :: pn)) (.Name x p) (tVar i)) (hy : PE (X.suite a ((a, oe) :: pn)) (.Name y p2) (tC cv)) (hcv : ∀ u, RelV cv u → u = cu) (hk : PySem.W.kitOne X.K (.ref C) cu = some b)
    (h1 : starEach [.Name x p, .Name y p2] X.env = (false, eval (.Name x p) X.env) :: starEach [.Name y p2] X.env := by rfl) (h2 : starEach [.Name y p2] X.env = (false, eval (.Name y p2) X.env) :: starEach [] X.env := by rfl) (hpl : (backTo pos (starEach [.Name y p2] X.env)).any (·.1) = false := by rfl) :
    HE (X.suite a ((a, oe) :: pn)) ⟨cl.f, some (i, a)⟩ Wo (.Call (.Name "isinstance" n) [.Name x p, .Name y p2] [] pos) (dIsE i b) := by
  refine PE.imp (pe_callB (call_isE hE hz hfl) hg hm rfl (pa_cons hx (pa_cons hy pa_nil h2) h1) (by decide) (by decide) h1 hpl) fun σ H Q ⟨Z, F, P, e, T, r, k⟩ => ?_
  unfold dIsE at k
  split at k
  · rename_i hs
    have h3 := r.pin i .pn hs rfl
    rw [r.px i a rfl] at h3
    exact ⟨.ref a, h3, cv, cu, b, rfl, hcv, hk, k (.bl b) Z F H .refl (r.push (x := .bl b) rfl)⟩
  · exact k.elim
end
end MX

/-! MXi: dict displays. -/
namespace MX
open PySem L2
section
variable {X : Cx} {cl : Cl} {Wo : WX} {pos : Pos}
variable {W W' : Wd} {Z F Z' F' : Addr → Prop} {P P' : Nat → V} {e : En} {T : Ts} {σ : L2.St} {H H' : Hp} {Q : VK}
theorem RS.newDic {p : Addr} (r : RS W Z F P e T σ H) (hp : H p = none) : RS W Z (fun a => F a ∨ a = p) P e ((.dic [] [], .ref p) :: T) σ (upd H p (.dK [])) := by
  obtain ⟨⟨fe, ft, h1, h2, nd, hF⟩, sep, zin, fin, pin, px⟩ := r
  have k := same_upd (o := .dK []) hp
  have kp : Kp H Z (upd H p (.dK [])) Z := ⟨fun _ h => h, fun a o _ h => k a o h, fun a _ h => k a _ h, fun a _ _ h => k a _ h⟩
  have pF : ∀ a, F a → a ≠ p := fun a fa z => by subst z; exact notMut_none hp (fin a fa)
  refine ⟨⟨fe, p :: ft, h1.keep kp _ _ _ fun a _ u q => k a u q, ⟨.ref p, _, [p], ft, rfl, rfl, ⟨p, [], [], rfl, upd_same, rfl, List.nodup_nil, rfl, rfl, rfl⟩, h2.keep kp _ _ _ fun a _ u q => k a u q⟩, ?_, fun a ha => ?_⟩, fun a ha z => ?_, fun a z q => ?_, fun a ha => ?_, pin, px⟩
  · rw [List.perm_middle.nodup_iff, List.nodup_cons]
    exact ⟨fun z => pF p (hF p z) rfl, nd⟩
  · rcases List.mem_append.mp ha with q | q
    · exact .inl (hF a (List.mem_append_left _ q))
    · rcases List.mem_cons.mp q with q | q
      · exact .inr q
      · exact .inl (hF a (List.mem_append_right _ q))
  · rcases ha with ha | ha
    · exact sep a ha z
    · subst ha; exact zin a z hp
  · exact dom_upd a (zin a z) q
  · rcases ha with ha | ha
    · rw [upd_ne (pF a ha)]; exact fin a ha
    · rw [ha, upd_same]; trivial
/-- an empty dict that is held takes the held items -/
theorem RS.fillDic {ks : List Key} {os : List O} {vs : List V} {p : Addr} (r : RS W Z F P e (os.zip vs ++ ((.dic [] [], .ref p) :: T)) σ H) (hl : os.length = vs.length) (hk : ks.length = vs.length) (nd : ks.Nodup) :
    H p = some (.dK []) ∧ Stp Z F H Z F (upd H p (.dK (ks.zip vs))) ∧ RS W Z F P e ((.dic ks os, .ref p) :: T) σ (upd H p (.dK (ks.zip vs))) := by
  have r0 := r.appPop
  obtain ⟨f, ⟨a', kvs, f', ev, hh, e1, ndk, _, hc⟩, _⟩ := r0.top
  cases ev
  have e0 : kvs = [] := List.map_eq_nil_iff.mp e1
  subst e0
  refine ⟨hh, ?_⟩
  have r' : RS W Z F P e (((os.zip vs) ++ [(.dic [] [], .ref p)] : Ts) ++ T) σ H := by rw [List.append_assoc]; exact r
  refine RS.write (C' := [(.dic ks os, .ref p)]) (o := .dK (ks.zip vs)) r' trivial (fun fC hC => ?_) (fun kp fC hC ndC => ?_)
  · rw [List.map_append, List.map_append] at hC
    obtain ⟨vs', us, f1, f2, ew, ef, a1, a2⟩ := hC.split
    obtain ⟨v, rr, g1, g2, ev, eg, ⟨a', us', f3, ev', _, _, _, e3, _⟩, _⟩ := a2
    have e0 : v = .ref p := by
      have hl2 : vs'.length = ((os.zip vs).map (·.2)).length := by rw [← a1.len, List.length_map, List.length_map]
      have e4 := List.append_inj ew hl2.symm
      have e5 := e4.2
      rw [ev] at e5
      exact (List.cons.inj e5).1.symm
    rw [e0] at ev'
    cases ev'
    rw [ef, eg, e3]
    exact List.mem_append_right _ (List.mem_append_left _ List.mem_cons_self)
  · rw [List.map_append, List.map_append, List.map_fst_zip (Nat.le_of_eq hl), List.map_snd_zip (Nat.le_of_eq hl.symm)] at hC
    obtain ⟨vs', us, f1, f2, ew, ef, a1, a2⟩ := hC.split
    have hl2 : vs'.length = vs.length := by rw [← a1.len, hl]
    have e4 := List.append_inj ew hl2.symm
    obtain ⟨rfl, rfl⟩ : vs' = vs ∧ us = [V.ref p] := ⟨e4.1.symm, e4.2.symm⟩
    obtain ⟨a', kvs', f3, ev', hh', e1', ndk', e3, hcs⟩ := ros_one a2
    cases ev'
    rw [hh] at hh'
    cases hh'
    subst ef e3
    have nd1 := List.nodup_append.mp ndC
    have na : ∀ b ∈ f1, b ≠ p := fun b hb q => nd1.2.2 b hb p List.mem_cons_self q
    have e5 : (ks.zip vs').map (·.1) = ks := List.map_fst_zip (Nat.le_of_eq hk)
    have e6 : (ks.zip vs').map (·.2) = vs' := List.map_snd_zip (Nat.le_of_eq hk.symm)
    refine ⟨p :: f1, ROs.one ⟨p, ks.zip vs', f1, rfl, upd_same, e5, nd, rfl, ?_⟩, List.nodup_cons.mpr ⟨fun z => na p z rfl, nd1.1⟩, fun b hb => ?_⟩
    · rw [e6]
      exact a1.keep kp _ _ _ fun b hb u hu => by rw [upd_ne (na b hb)]; exact hu
    · rcases List.mem_cons.mp hb with q | q
      · rw [q]; exact List.mem_append_right _ List.mem_cons_self
      · exact List.mem_append_left _ q
def aAll : List (En → Rs O) → En → Rs (List O)
  | [] => aNil
  | d :: ds => aCons d (aAll ds)
theorem tPairs_of : ∀ {ks : List Key} {ds : List (En → Rs O)} {σ : L2.St} {H : Hp} {K : List V → Hp → Prop}, ks.length = ds.length → rdA W Wo (aAll ds) σ H K →
    tPairs ((ks.zip ds).map fun kd => (tC (kV kd.1), rdE W Wo kd.2)) σ H fun ps H2 => ∃ vs, ps = (ks.zip vs).map (fun kv => (kV kv.1, kv.2)) ∧ vs.length = ks.length ∧ K vs H2
  | [], [], σ, H, K, _, h => by
    obtain ⟨Z, F, P, e, T, r, k⟩ := h
    exact ⟨[], rfl, rfl, k [] Z F H rfl .refl r⟩
  | [], _ :: _, _, _, _, h, _ => by cases h
  | _ :: _, [], _, _, _, h, _ => by cases h
  | k :: ks, d :: ds, σ, H, K, hl, h => by
    have h1 := rdA_cons (g := fun o os => o :: os) (gv := fun v vs => v :: vs) (fun o os v vs h => by rw [List.length_cons, List.length_cons, h]) (fun o os v vs h => by
      rw [List.zip_cons_cons]
      exact List.perm_append_comm) h
    show rdE W Wo d σ H fun y H2 => _
    obtain ⟨Z, F, P, e, T, r, q⟩ := h1
    refine ⟨Z, F, P, e, T, r, ?_⟩
    have mono : ∀ {r : Rs O} {Q Q' : VK}, (∀ v H, Q v H → Q' v H) → PostE W Wo Z F P T σ H Q r → PostE W Wo Z F P T σ H Q' r := fun {r Q Q'} hm hp => by
      cases r with
      | ok o e => exact fun v Z' F' H' s r => hm _ _ (hp v Z' F' H' s r)
      | exc c ps e => exact hp
      | bad => exact hp
    refine mono (fun v H2 hv => ?_) q
    have h2 := tPairs_of (ks := ks) (ds := ds) (Nat.succ.inj hl) hv
    have gen : ∀ (trs : List (TE × TE)) (σ : L2.St) (H : Hp) (K1 K2 : List (V × V) → Hp → Prop), (∀ ps H, K1 ps H → K2 ps H) → (∀ te ∈ trs.map (·.2), ∀ σ H Q Q', (∀ v H, Q v H → Q' v H) → te σ H Q → te σ H Q') → (∀ te ∈ trs.map (·.1), ∀ σ H Q Q', (∀ v H, Q v H → Q' v H) → te σ H Q → te σ H Q') → tPairs trs σ H K1 → tPairs trs σ H K2 := by
      intro trs
      induction trs with
      | nil => exact fun σ H K1 K2 hk _ _ h => hk _ _ h
      | cons t trs ih =>
        intro σ H K1 K2 hk m2 m1 h
        obtain ⟨tk, tv⟩ := t
        refine m1 tk (List.mem_cons_self) σ H _ _ (fun x H1 h => ?_) h
        refine m2 tv (List.mem_cons_self) σ H1 _ _ (fun y H2 h => ?_) h
        exact ih σ H2 _ _ (fun ps H hp => hk _ _ hp) (fun te ht => m2 te (List.mem_cons_of_mem _ ht)) (fun te ht => m1 te (List.mem_cons_of_mem _ ht)) h
    refine gen _ σ H2 _ _ (fun ps H3 ⟨vs, e1, e2, e3⟩ => ⟨v :: vs, by rw [e1]; rfl, by rw [List.length_cons, List.length_cons, e2], e3⟩) (fun te ht => ?_) (fun te ht => ?_) h2
    · rw [List.map_map] at ht
      obtain ⟨kd, _, rfl⟩ := List.mem_map.mp ht
      rintro σ H Q Q' hm ⟨Z, F, P, e, T, r, q⟩
      refine ⟨Z, F, P, e, T, r, ?_⟩
      show PostE W Wo Z F P T σ H Q' (kd.2 e)
      have q' : PostE W Wo Z F P T σ H Q (kd.2 e) := q
      cases q3 : kd.2 e with
      | ok o e => rw [q3] at q'; exact fun v Z' F' H' s r => hm _ _ (q' v Z' F' H' s r)
      | exc c ps e => rw [q3] at q'; exact q'
      | bad => rw [q3] at q'; exact q'
    · rw [List.map_map] at ht
      obtain ⟨kd, _, rfl⟩ := List.mem_map.mp ht
      exact fun σ H Q Q' hm h => hm _ _ h
theorem mergeK_nd : ∀ {more kvs : List (Key × V)}, ((kvs ++ more).map (·.1)).Nodup → mergeK kvs more = kvs ++ more
  | [], kvs, _ => by rw [List.append_nil]; rfl
  | p :: more, kvs, h => by
    have hn : valV kvs p.1 = none := by
      cases q : valV kvs p.1 with
      | none => rfl
      | some v =>
        exfalso
        have := valV_in q
        rw [List.map_append, List.nodup_append] at h
        exact h.2.2 p.1 this p.1 (by rw [List.map_cons]; exact List.mem_cons_self) rfl
    show mergeK (putK kvs p.1 p.2) more = kvs ++ p :: more
    rw [putK_new p.2 hn, mergeK_nd (by rw [List.append_assoc]; exact h), List.append_assoc]
    rfl
def dDisp (ks : List Key) (ds : List (En → Rs O)) : En → Rs O := fun e => (aAll ds e).bind fun os e1 => .ok (.dic ks os) e1
theorem aAll_len : ∀ {ds : List (En → Rs O)} {e e1 : En} {os : List O}, aAll ds e = .ok os e1 → os.length = ds.length
  | [], e, e1, os, h => by cases h; rfl
  | d :: ds, e, e1, os, h => by
    have h : (aCons d (aAll ds)) e = .ok os e1 := h
    unfold aCons at h
    cases q : d e with
    | bad => rw [q] at h; cases h
    | exc c ps e' => rw [q] at h; cases h
    | ok o e2 =>
      rw [q] at h
      simp only [Rs.bind_ok] at h
      cases q2 : aAll ds e2 with
      | bad => rw [q2] at h; cases h
      | exc c ps e' => rw [q2] at h; cases h
      | ok os' e3 =>
        rw [q2] at h
        cases h
        rw [List.length_cons, List.length_cons, aAll_len q2]
theorem he_disp {keys : List (Option Expr)} {values : List Expr} {ks : List Key} {ds : List (En → Rs O)} (h : PPs X pos keys values ((ks.zip ds).map fun kd => (tC (kV kd.1), rdE (Cx.wd X cl) Wo kd.2))) (hl : ks.length = ds.length := by rfl) (hn : ks.Nodup := by decide) (h15k : ks.length ≤ 15 := by decide)
    (hall : keys.all (·.isSome) = true := by rfl) (hkv : keys.length = values.length := by rfl) (h0 : keys ≠ [] := by simp) (h15 : keys.length ≤ 15 := by decide) : HE X cl Wo (.Dict keys values pos) (dDisp ks ds) :=
  PE.imp (pe_disp h hall hkv h0 h15) fun σ H Q ⟨Z, F, P, e, T, r, k⟩ p hp => by
    have r1 := r.newDic hp
    have h1 : rdA (Cx.wd X cl) Wo (aAll ds) σ (upd H p (.dK [])) fun vs H2 => H2 p = some (.dK []) ∧ (vs.length = ks.length → Q (.ref p) (upd H2 p (.dK (ks.zip vs)))) := by
      refine ⟨Z, _, P, e, (.dic [] [], .ref p) :: T, r1, ?_⟩
      unfold dDisp at k
      cases q : aAll ds e with
      | bad => rw [q] at k; exact k.elim
      | exc c ps e1 => rw [q] at k; exact XOk.popped (XOk.step (Stp.allocF hp) k)
      | ok os e1 =>
        rw [q] at k
        simp only [Rs.bind_ok] at k
        intro vs Z1 F1 H1 hlen s1 r2
        have h2 : ks.length = vs.length := by rw [← hlen, aAll_len q, hl]
        obtain ⟨b1, b2, b3⟩ := r2.fillDic (ks := ks) hlen h2 hn
        exact ⟨b1, fun _ => k _ Z1 F1 _ (((Stp.allocF hp).trans s1).trans b2) b3⟩
    have h2 := tPairs_of (ks := ks) hl h1
    have gen : ∀ (trs : List (TE × TE)) (σ : L2.St) (H : Hp) (K1 K2 : List (V × V) → Hp → Prop), (∀ ps H, K1 ps H → K2 ps H) → (∀ te ∈ trs.map (·.2), ∀ σ H Q Q', (∀ v H, Q v H → Q' v H) → te σ H Q → te σ H Q') → (∀ te ∈ trs.map (·.1), ∀ σ H Q Q', (∀ v H, Q v H → Q' v H) → te σ H Q → te σ H Q') → tPairs trs σ H K1 → tPairs trs σ H K2 := by
      intro trs
      induction trs with
      | nil => exact fun σ H K1 K2 hk _ _ h => hk _ _ h
      | cons t trs ih =>
        intro σ H K1 K2 hk m2 m1 h
        obtain ⟨tk, tv⟩ := t
        refine m1 tk (List.mem_cons_self) σ H _ _ (fun x H1 h => ?_) h
        refine m2 tv (List.mem_cons_self) σ H1 _ _ (fun y H2 h => ?_) h
        exact ih σ H2 _ _ (fun ps H hp => hk _ _ hp) (fun te ht => m2 te (List.mem_cons_of_mem _ ht)) (fun te ht => m1 te (List.mem_cons_of_mem _ ht)) h
    refine gen _ σ _ _ _ ?_ (fun te ht => ?_) (fun te ht => ?_) h2
    · rintro ps H3 ⟨vs, e1, e2, e3, e4⟩
      refine ⟨e3, ks.zip vs, e1, ?_, ?_⟩
      · rw [List.length_zip, e2, Nat.min_self]; exact h15k
      · rw [mergeK_nd (by rw [List.nil_append, List.map_fst_zip (Nat.le_of_eq e2.symm)]; exact hn), List.nil_append]
        exact e4 e2
    · rw [List.map_map] at ht
      obtain ⟨kd, _, rfl⟩ := List.mem_map.mp ht
      rintro σ H Q Q' hm ⟨Z, F, P, e, T, r, q⟩
      refine ⟨Z, F, P, e, T, r, ?_⟩
      show PostE _ Wo Z F P T σ H Q' (kd.2 e)
      have q' : PostE (Cx.wd X cl) Wo Z F P T σ H Q (kd.2 e) := q
      cases q3 : kd.2 e with
      | ok o e => rw [q3] at q'; exact fun v Z' F' H' s r => hm _ _ (q' v Z' F' H' s r)
      | exc c ps e => rw [q3] at q'; exact q'
      | bad => rw [q3] at q'; exact q'
    · rw [List.map_map] at ht
      obtain ⟨kd, _, rfl⟩ := List.mem_map.mp ht
      exact fun σ H Q Q' hm h => hm _ _ h
end
end MX

/-! MXj: what the printed walks lean on. -/
namespace MX
open PySem L2 PySem.Spec PyProof.Rows
section
variable {X : Cx} {cl : Cl} {Wo : WX} {pos : Pos}
variable {W W' : Wd} {Z F Z' F' : Addr → Prop} {P P' : Nat → V} {e : En} {T : Ts} {σ : L2.St} {H H' : Hp} {Q : VK}
theorem CallOk.or {f g : List O → Option O} {r r' : List V → Hp → VK → Prop} (a : CallOk W f r) (b : CallOk W g r') : CallOk W (fun xs => match f xs with | some z => some z | none => g xs) (fun xs H Q => r xs H Q ∨ r' xs H Q) := by
  intro Z F P e T σ H os z vs Q hf ss rs k
  cases q : f os with
  | some w => simp only [q] at hf; exact .inl (a Z F P e T σ H os w vs Q q ss rs (by rw [Option.some.inj hf]; exact k))
  | none => simp only [q] at hf; exact .inr (b Z F P e T σ H os z vs Q hf ss rs k)
/-- len of an owned dict -/
def fLenD : O → Option O
  | .dic ks xs => some (.d (.int ks.length))
  | _ => none
theorem cLenD : CallOk W (on1 fLenD) (fun xs H Q => ∃ a kvs, xs = [V.ref a] ∧ H a = some (.dK kvs) ∧ Q (.int kvs.length) H) := by
  intro Z F P e T σ H os z vs Q hf ss rs k
  obtain ⟨o, rfl, hg⟩ := on1_some hf
  clear hf
  obtain ⟨v, rfl, s⟩ := ss.one
  unfold fLenD at hg
  split at hg
  · rename_i ks xs
    cases hg
    obtain ⟨f, a, kvs, f', e, hh, e1, _⟩ := s
    refine ⟨a, kvs, by rw [e], hh, ?_⟩
    have : kvs.length = ks.length := by rw [← e1, List.length_map]
    rw [this]
    exact done_leaf (x := .int ks.length) rs (fun _ _ => rfl) k
  · cases hg
def fLenU (xs : List O) : Option O := match on1 fLen xs with
  | some z => some z
  | none => match on1 fLenS xs with
    | some z => some z
    | none => on1 fLenD xs
theorem cLenU : CallOk W fLenU (fun xs H Q => (∃ p ys, xs = [V.ref p] ∧ (SqL W.K H p ys ∨ SqT W.K H p ys) ∧ Q (.int ys.length) H) ∨ ((∃ z, xs = [V.str z] ∧ z.length ≤ sizeLine ∧ Q (.int z.length) H) ∨ ∃ a kvs, xs = [V.ref a] ∧ H a = some (.dK kvs) ∧ Q (.int kvs.length) H)) :=
  CallOk.or cLen (CallOk.or cLenS cLenD)
/-- a built-in type's name as a value -/
theorem he_ty {x : Str} {n : String} (hg : Gl X x) (hm : X.mg x = none) (hv : bootBuiltins x = some (.type n)) (hn : x ≠ "__name__" := by decide) (hd : (x == ("__debug__" : Str)) = false := by decide) : HE X cl Wo (.Name x pos) (dC (.ty n)) :=
  he_C (pe_bltn (v := .ty n) hg hm hv rfl hn hd) fun _ _ => rfl
theorem pe_bty {x : Str} {n : String} (hg : Gl X x) (hm : X.mg x = none) (hv : bootBuiltins x = some (.type n)) (hn : x ≠ "__name__" := by decide) (hd : (x == ("__debug__" : Str)) = false := by decide) : PE X (.Name x pos) (tC (.ty n)) := pe_bltn (v := .ty n) hg hm hv rfl hn hd
/-- how arguments come to parameters, from the def's text -/
theorem KB.of {K : PySem.W.Frag} {x qual : Str} {st : Stmt} {f : Addr} {fd : FuncData} {ps ks : List Str} {n0 n1 : Nat} {p : List Nat} (Fn : Fun K x qual st f fd)
    (h : ∀ (kV doc pm : Value) (an : Option Addr) (cdv ct : Value) (us ws : List Value), us.length = n0 → ws.length = n1 → bindArgs (PySem.W.fnOf x qual (defArgs st) (defBody st) (defScope st) .none kV doc pm an cdv ct) ⟨us, ks.zip ws⟩ = pure (ps.zip (ord p (us ++ ws))))
    (pm : p.Perm (List.range (n0 + n1))) : KB K fd ps ks n0 n1 p := by
  obtain ⟨oc, od, kV, doc, pm', an, cdv, ct, osl, rfl, lk, hcd⟩ := Fn.ex
  exact ⟨fun s us ws _ h0 h1 => .of_eq (h kV doc pm' an cdv ct us ws h0 h1), pm⟩
/-- a def that promises nothing -/
theorem FnOk.bad {Pg : Program} {w : World} {K : PySem.W.Frag} {mg : Str → Option Value} {base : Heap} {Wd0 : Wd} {x qual : Str} {st : Stmt} {f : Addr} {fd : FuncData} {N ps : List Str} {k n : Nat} (Fn : Fun K x qual st f fd) (S : FnScope N ps (defScope st)) :
    FnOk Pg w K mg base (L2.CX Pg w) k f fd ps (spD Wd0 n fun _ => .bad) :=
  ⟨fun vs H Q E ⟨_, _, _, _, _, _, _, h⟩ => h.elim, fun A outer s H args us vs Q E hr he hb hv ⟨_, _, _, _, _, _, _, h⟩ => h.elim⟩
/-- tuple(range(a, b, c)) -/
def fRg3 (xs : List O) : Option O := (gR3 xs).map fun ds => .d (.tup ds)
def rTupRg3 : List V → Hp → VK → Prop := fun vs H Q => ∃ (i j c : Int) (n : Nat), vs = [.int i, .int j, .int c] ∧ RgC i j c n ∧ n ≤ 2 ^ 24 ∧ ∀ p o, H p = none → o.dict = none → Q (.ref p) (upd H p (.frz o (.tup ((List.range n).map fun (k : Nat) => V.int (i + (k : Int) * c)))))
theorem pe_tupRg3 {a b c : Expr} {ta : TA} {p p2 pos2 : Pos} (hcalm : X.calm = true) (hgt : Gl X "tuple") (hmt : X.mg "tuple" = none) (hg : Gl X "range") (hm : X.mg "range" = none) (ha : PA X [a, b, c] ta)
    (hs : starEach [a, b, c] X.env = (false, eval a X.env) :: starEach [b, c] X.env := by rfl) (hpl : (backTo pos2 (starEach [b, c] X.env)).any (·.1) = false := by rfl)
    (na : starEach [.Call (.Name "range" p) [a, b, c] [] pos2] X.env = (false, eval (.Call (.Name "range" p) [a, b, c] [] pos2) X.env) :: starEach [] X.env := by rfl) :
    PE X (.Call (.Name "tuple" p2) [.Call (.Name "range" p) [a, b, c] [] pos2] [] pos) (fun σ H Q => ta σ H fun vs H1 => rTupRg3 vs H1 Q) := by
  refine ⟨fun pins s σ H Q I h => ?_⟩
  refine Call_ (ld_blt I hgt hmt boot_tuple (PyProof.Rows.callWith_type1 (args_cons ?_ na) na))
  refine Call_ (ld_blt I hg hm boot_range (PyProof.Rows.callWith_type1 (thn (ha.run pos2 pins s σ H _ I h) fun us s1 ⟨vs, H1, I1, r1, q1⟩ => ?_) hs hpl))
  obtain ⟨i, j, k, n, ev, ⟨c0, c1, c2, c3⟩, hn, q⟩ := q1
  subst ev
  cases r1 with
  | cons r rr =>
    cases rr with
    | cons r' rr =>
      cases rr with
      | cons r'' rr =>
        cases rr
        obtain ⟨t, rfl⟩ := r
        obtain ⟨t', rfl⟩ := r'
        obtain ⟨t'', rfl⟩ := r''
        refine call_range_3 c0 ?_ (.inl (PyProof.noPylong_small c1))
        refine args_nil ?_
        refine call_tuple_range (I1.ok.hd hcalm) (IsRange.new ..) c2 c3 hn fun h' tk acc hk hi => ?_
        have I2 : Inv X pins σ H1 { s1 with heap := h', toks := tk } := I1.kept fun b o e => hk _ _ (Heap.get?_push_of_some _ e)
        have hv : Vals ((List.range n).map fun (m : Nat) => V.int (i + (m : Int) * k)) acc.toList := by
          have el : acc.toList.length = n := by rw [Array.length_toList]; exact hi.1
          rw [← el]
          refine vals_of_get acc.toList _ fun j u hj => ?_
          obtain ⟨t, rfl⟩ := hi.2 j u (by rw [← hj, Array.getElem?_toList])
          exact ⟨t, rfl⟩
        refine ⟨.ref h'.objs.size, upd H1 h'.objs.size (.frz _ (.tup _)), I2.laid (t' := tk) (fun c o e => Heap.get?_push_of_some _ e) (Nat.le_refl _) ⟨Heap.get?_push_size _ rfl, ?_, acc.toList, hv, ?_⟩, rfl, q _ _ (I2.hok.fresh (Nat.le_refl _)) rfl⟩
        · rw [List.length_map, List.length_range, sizeLine_eq]; omega
        · rw [Array.toArray_toList]; exact IsTup.new _ _
def fTupRg3 : List O → Option O
  | [.d (.int i), .d (.int j), .d (.int c)] => if c ≠ 0 ∧ c.natAbs < 1073741824 ∧ Builtin.Range.small i j c = true ∧ Builtin.Range.rangeSize i j c ≤ 2 ^ 24 then some (.d (.tup (stepD i c (Builtin.Range.rangeSize i j c).toNat))) else none
  | _ => none
theorem rgsz {i j c : Int} : 0 ≤ Builtin.Range.rangeSize i j c := by
  unfold Builtin.Range.rangeSize
  split
  · split
    · have : 0 ≤ (j - i - 1) / c := Int.ediv_nonneg (by omega) (by omega)
      omega
    · omega
  · split
    · have : 0 ≤ (i - j - 1) / (-c) := Int.ediv_nonneg (by omega) (by omega)
      omega
    · omega
theorem rds_step {lo c : Int} {n : Nat} : RDs W H Z (stepD lo c n) ((List.range n).map fun (k : Nat) => V.int (lo + (k : Int) * c)) := by
  unfold stepD
  generalize List.range n = l
  induction l with
  | nil => exact rfl
  | cons x l ih => exact ⟨_, _, rfl, rfl, ih⟩
theorem cTupRg3 : CallOk W fTupRg3 rTupRg3 := by
  intro Z F P e T σ H os z vs Q hf ss rs k
  unfold fTupRg3 at hf
  split at hf
  · rename_i i j c
    split at hf
    · rename_i hb; cases hf
      obtain ⟨v, u, w, rfl, s, s', s''⟩ := ss.three
      have h0 := rgsz (i := i) (j := j) (c := c)
      refine ⟨i, j, c, _, by rw [s.int, s'.int, s''.int], ⟨hb.1, hb.2.1, hb.2.2.1, (Int.toNat_of_nonneg h0).symm⟩, by have := hb.2.2.2; omega, fun p o hp ho => k _ _ _ _ (Stp.alloc hp) (rs.newT rds_step hp ho)⟩
    · cases hf
  · cases hf
def dTRg3 (d : En → Rs (List Ar)) : En → Rs O := dCall fTupRg3 d
theorem he_tupRg3 {a b c : Expr} {d} {p p2 pos2 : Pos} (hcalm : X.calm = true) (hgt : Gl X "tuple") (hmt : X.mg "tuple" = none) (hg : Gl X "range") (hm : X.mg "range" = none) (ha : HVs X cl Wo [a, b, c] d)
    (hs : starEach [a, b, c] X.env = (false, eval a X.env) :: starEach [b, c] X.env := by rfl) (hpl : (backTo pos2 (starEach [b, c] X.env)).any (·.1) = false := by rfl)
    (na : starEach [.Call (.Name "range" p) [a, b, c] [] pos2] X.env = (false, eval (.Call (.Name "range" p) [a, b, c] [] pos2) X.env) :: starEach [] X.env := by rfl) :
    HE X cl Wo (.Call (.Name "tuple" p2) [.Call (.Name "range" p) [a, b, c] [] pos2] [] pos) (dTRg3 d) :=
  PE.imp (pe_tupRg3 hcalm hgt hmt hg hm ha hs hpl na) fun σ H Q h => rdCall cTupRg3 h
theorem hs_setLc2 {i : Nat} {st : Stmt} {own : List (Str × Nat)} {vs1 : List Nat} {di di1} {t t1 : Tg} {dc dc1} {de} (hv : ∀ i ∈ vs1, i ∈ own.map (·.2))
    (h : PS X st (tAsg (tLc2 (rdI (Cx.wd X cl) Wo di) (rdG (Cx.wd X cl) (own.map (·.2)) t) (rdT (Cx.wd X cl) Wf dc) (rdI (Cx.wd X cl) Wf di1) (rdG (Cx.wd X cl) vs1 t1) (rdT (Cx.wd X cl) Wf dc1) (rdE (Cx.wd X cl) Wf de) (own.map (·.2)) vs1) (L2.gName i))) :
    HS X cl Wo st (sAsg (dLc2 di (own.map (·.2)) t dc di1 vs1 t1 dc1 de) (tName i)) :=
  PS.imp h fun D σ H h => rdLc2 hv (rdE_out h fun Z F P e T o v H1 r k => by
    split at k
    · rename_i e2 q; exact k _ Z F H1 .refl (r.store q)
    · exact k.elim)
end
end MX

/-! MXk: the law's own head. -/
namespace MX
open PySem L2 PySem.Spec PyProof.Rows
/-- nothing written is a list -/
def noList (K : PySem.W.Frag) : Bool := K.all fun p => p.2.cls != .type "list"
theorem lookup_mem {K : PySem.W.Frag} {a : Addr} {o : Obj} (h : K.lookup a = some o) : (a, o) ∈ K := by
  induction K with
  | nil => cases h
  | cons p K ih =>
    obtain ⟨b, u⟩ := p
    rw [List.lookup_cons] at h
    by_cases q : a == b
    · rw [q] at h
      cases h
      rw [beq_iff_eq.mp q]
      exact List.mem_cons_self
    · have : (a == b) = false := by simpa using q
      rw [this] at h
      exact List.mem_cons_of_mem _ (ih h)
theorem rd_of {K : PySem.W.Frag} {H : Hp} {a : Addr} {xs : List V} (nl : noList K = true) (h : SqL K H a xs) : Rd H a (.lst xs) := by
  rcases h with h | ⟨o, its, n, hk, hc, _⟩
  · exact h
  · have := List.all_eq_true.mp nl _ (lookup_mem hk)
    rw [hc] at this
    cases this
def spLaw (K : PySem.W.Frag) : Sp := fun vs H Q _ => ∃ (a : Addr) (ns : List Int), vs = [.ref a] ∧ SqL K H a (ns.map V.int) ∧ ns.length ≤ 63 ∧ ∀ H', Q (.bl true) H'
theorem top_imp {K : PySem.W.Frag} {cf : String → Option Addr} {den : Den} (nl : noList K = true) (h : ∀ ns : List Int, ns.length ≤ 63 → ∃ ps, den [.d (.lst (ns.map D.int))] = .ok (.d (.bl true)) ps) (vs : List V) (H : Hp) (Q : VK) (E : XK) (q : spLaw K vs H Q E) :
    spD ⟨K, cf, none⟩ 1 den vs H Q E := by
  obtain ⟨a, ns, rfl, hS, hl, k⟩ := q
  have hr := rd_of nl hS
  obtain ⟨ps, hd⟩ := h ns hl
  have hn : H a ≠ none := by
    rcases hr with hr | ⟨o, hr⟩
    · rw [hr]; simp
    · rw [hr]; simp
  refine ⟨fun b => b = a, fun _ => False, fun _ => .non, [.d (.lst (ns.map D.int))], ⟨⟨[], [], ⟨rfl, rfl⟩, ⟨.ref a, [], [], [], rfl, rfl, ⟨⟨a, _, rfl, ⟨rfl, hr⟩, ints_rds⟩, rfl⟩, rfl, rfl⟩, List.nodup_nil, fun _ h => nomatch h⟩, fun _ h => h.elim, fun b hb => by rw [hb]; exact hn, fun _ h => h.elim, fun i s h => by simp at h, fun i b h => by cases h⟩, rfl, rfl, ?_⟩
  rw [hd]
  exact fun v Z' F' H' P' s r => by
    have : v = .bl true := r.topD
    rw [this]
    exact k H'
end MX

/-! MXv: super().m(..) as a row of a def of a class (its cell __class__ is a slot behind the parameters). -/
namespace MX
open PySem L2
/-- the object that super() makes -/
def SupO (so D x C : Addr) : HO := .ext fun h => h.get? so = some (PySem.W.ks_superObj D x C)
/-- m, looked up behind D on the way of C -/
structure SupF (K : PySem.W.Frag) (C D : Addr) (m : Str) (f : Addr) : Prop where
  sub : PySem.W.mroIn K C (.ref D) = some true
  meth : PySem.W.ks_superIn K C D m = some (some (.ref f))
  fn : PySem.W.typeIn K (.ref f) = some (.type "function")
  fi : PySem.W.fnIn K f = true
/-- what the context says of super() -/
structure SupX (X : Cx) (D : Addr) (slf : Str) (j : Nat) : Prop where
  gl : Gl X "super"
  mg : X.mg "super" = none
  kc : X.env.kindOf "__class__" = some .free
  ks : Vis X.env.scope slf
  N0 : X.N[0]? = some slf
  Nj : X.N[j]? = some "__class__"
  fu : ∃ (f : Addr) (oc : Value) (od : Option Addr) (fd : FuncData) (osl : Array (Option Value)) (ar : Arg), X.env.func = some f ∧ X.K.lookup f = some ⟨oc, od, .func fd, osl⟩ ∧ (fd.params.posonlyargs ++ fd.params.args).head? = some ar ∧ ar.arg = slf
  co : ∃ (ca : Addr) (cc : Value) (cd : Option Addr) (vs : Array Value) (cs : Array (Option Value)) (file : Str) (tf : Tok), X.env.code = .ref ca ∧ X.K.lookup ca = some ⟨cc, cd, .fields vs, cs⟩ ∧ vs[2]? = some (.str file tf) ∧ ((X.prog.main.file : Str) == file) = true
  top : (X.prog.main.scope.names.lookup ("super" : Str)).isSome = false
  cD : ∃ cd, PySem.W.clsIn X.K D = some cd
  opq : PySem.W.nsIn X.K cStatics "thirdparty.any" = some none
section
variable {X : Cx} {pins : List (Addr × Obj)} {σ : L2.St} {H : Hp} {s : Shared} {x C D dx f : Addr} {fs : List (Str × V)} {slf m : Str} {j : Nat} {body : List Stmt}
theorem ld_name {i : Nat} {y : Str} {v : V} {A : Around} {E : Value → Shared → Prop} {Q : Value → Shared → Prop} (I : Inv X pins σ H s) (hN : X.N[i]? = some y) (hv : Vis X.env.scope y) (e : σ[i]? = some (some v)) (h : ∀ u, RelV v u → Q u s) (hcd : (y == ("__classdict__" : Str)) = false) : wpAny (model X.prog X.w) A (loadName X.env y) Q E s := by
  obtain ⟨mm, hn, hl⟩ := I.loc
  obtain ⟨u, r, l⟩ := hl i y v hN e hv
  rcases l with ⟨hk, hm⟩ | ⟨hk, c, hc, hcell⟩
  · exact wpAny_loadName_local I.ok.kind hk hn hm (h u r)
  · rcases hk with hk | hk
    · exact wpAny_loadName_cell I.ok.kind hk hc hcell (h u r)
    · exact wpAny_loadName_free I.ok.kind hk hc hcell (h u r) hcd
theorem sup_base {p0 p1 : Pos} {whole : Sem Value} {Q : Value → Shared → Prop} (S : SupX X D slf j) (I : Inv X pins σ H s) (hm : (m == ("__class__" : Str)) = false) (hs : (slf == ("__classdict__" : Str)) = false)
    (e0 : σ[0]? = some (some (.ref x))) (ej : σ[j]? = some (some (.ref D))) (hx : H x = some (.ins C dx fs)) (hsub : PySem.W.mroIn X.K C (.ref D) = some true)
    (h : ∀ so s', H so = none → Inv X pins σ (upd H so (SupO so D x C)) s' → Q (.ref so) s') :
    _root_.PySem.wpAt (model X.prog X.w) X.A (.func body X.env) (attributeBase (.Call (.Name "super" p0) [] [] p1) m X.env whole) Q X.xe s := by
  have KX := I.kIn
  obtain ⟨g0, oc, od, fd, osl, ar, hf1, hf2, hf3, hf4⟩ := S.fu
  obtain ⟨ca, cc, cd0, vs, cs, file, tf, hc1, hc2, hc3, hc4⟩ := S.co
  obtain ⟨cdD, hcd⟩ := S.cD
  obtain ⟨oD, hD1, hD2⟩ : ∃ oD, s.heap.get? D = some oD ∧ oD.data = .cls cdD := by
    unfold PySem.W.clsIn at hcd
    split at hcd
    · rename_i c d cd' sl ho
      cases hcd
      exact ⟨_, KX _ _ ho, rfl⟩
    · cases hcd
  obtain ⟨mA, O, _, _, _, _⟩ := ins_get I.hok hx
  obtain ⟨ox, J, _⟩ := O.look
  refine ks_wpAt_super_base (env := X.env) S.gl S.kc hm hf1 (KX _ _ hf2) rfl hf3 hc1 (KX _ _ hc2) rfl hc3 hc4 S.top ?_
  have Vc : Vis X.env.scope "__class__" := .inr (.inr S.kc)
  obtain ⟨mb, h1, h2⟩ := I.ok.mod.blt
  refine PySem.W.ks_loadName_global I.ok.kind S.gl (Calls.loadGlobal_builtin (by rw [I.ok.glob]; exact I.ok.mod.glob.keeps I.bk) S.mg (by rw [I.ok.blt]; exact h1.keeps I.bk) ((h2 "super" (by decide)).trans PyProof.Rows.Boot.«super») ⟨rfl, ?_⟩)
  refine ld_name I S.Nj Vc ej (fun u ru => ?_) (by decide)
  obtain rfl : u = .ref D := ru
  rw [hf4]
  refine ld_name I S.N0 S.ks e0 (fun u ru => ?_) hs
  obtain rfl : u = .ref x := ru
  obtain ⟨hh, g, d, t, os⟩ := s
  refine ks_wpAny_isType_cls hD1 hD2 ⟨rfl, ?_⟩
  refine ks_wpAny_call_super hD1 hD2 J.at_ J.cls (fun c e => ?_) (PySem.W.looks_mroIn KX hsub) (fun h' e k => ?_)
  · have := J.no
    unfold PySem.W.notCls at this
    rw [e] at this
    exact Bool.noConfusion this
  · have hn : H hh.objs.size = none := I.hok.fresh (Nat.le_refl _)
    exact h _ _ hn (I.laid (t' := t) (a := hh.objs.size) (o := SupO hh.objs.size D x C) k (Nat.le_refl _) ⟨e, ⟨_, e⟩, fun h1 h2 z st => st _ z⟩)
theorem sup_meth {so : Addr} {pl : Sem Bool} {A : Around} {E : Value → Shared → Prop} {Q : Value × List Value → Shared → Prop} (I : Inv X pins σ H s) (hso : H so = some (SupO so D x C)) (hx : H x = some (.ins C dx fs)) (S : SupF X.K C D m f) (hopq : PySem.W.nsIn X.K cStatics "thirdparty.any" = some none) (hm : (m == ("__class__" : Str)) = false)
    (h : ∀ q s', H q = none → Inv X pins σ (upd H q (.met f x)) s' → Q (.ref q, []) s') : wpAny (model X.prog X.w) A (getMethod (.ref so) m pl) Q E s := by
  have KX := I.kIn
  obtain ⟨mA, O, _, _, _, _⟩ := ins_get I.hok hx
  obtain ⟨ox, J, _⟩ := O.look
  obtain ⟨zso, _, _⟩ := (show ObjOk X.prog X.w H s.heap so (SupO so D x C) from I.hok so _ hso)
  have hmt := S.meth
  cases hc : PySem.W.clsIn X.K C with
  | none => unfold PySem.W.ks_superIn at hmt; rw [hc] at hmt; cases hmt
  | some cd =>
    unfold PySem.W.ks_superIn at hmt
    rw [hc] at hmt
    obtain ⟨of, hof, hofc⟩ : ∃ of, s.heap.get? f = some of ∧ of.cls = .type "function" := by
      have ht' : (X.K.lookup f).map (·.cls) = some (.type "function") := S.fn
      cases z : X.K.lookup f with
      | none => rw [z] at ht'; cases ht'
      | some of => rw [z] at ht'; exact ⟨of, KX _ _ z, Option.some.inj ht'⟩
    obtain ⟨hh, g, d, t, os⟩ := s
    refine ks_wpAny_getMethod_super zso (PySem.W.looks_opaque KX hopq) (l₀ := cd.mro) ?_ rfl KX hmt hof hofc (PySem.W.ks_ne KX J hc) hm ?_
    · exact fun A Q E s k q => wpAny_bind ((PySem.W.looks_clsIn KX hc) A _ E s k (wpAny_pure q))
    · have hn : H hh.objs.size = none := I.hok.fresh (Nat.le_refl _)
      exact h _ _ hn (I.laid (t' := t + 1) (a := hh.objs.size) (o := .met f x) (fun b u z => Heap.get?_push_of_some _ z) (Nat.le_refl _) (show (hh.push (PySem.W.methodObj (.ref f) (.ref x))).get? hh.objs.size = some (PySem.W.methodObj (.ref f) (.ref x)) from Heap.get?_push_size _ rfl))
end
end MX

/-! MXw: a def with the cell __class__, whose body says super().m(..) at its top. -/
namespace MX
open PySem L2
/-- statements in a def's own code -/
def HSsA (X : Cx) (cl : Cl) (Wo : WX) (st : List Stmt) (d : En → Out) : Prop :=
  ∀ (body : List Stmt) (pins : List (Addr × Obj)) (s : Shared) (σ : L2.St) (H : Hp) (D : Ends), Inv X pins σ H s → rdS (Cx.wd X cl) Wo d D σ H → _root_.PySem.wpAt (model X.prog X.w) X.A (.func body X.env) (execs st X.env) (SP X pins D) X.xe s
/-- the object itself as the first argument: its class one of cs -/
def gSlf (cs : List String) (i : Nat) : En → Rs Ag := fun e => match slot e i with
  | some (.obj c ns xs) => if c ∈ cs then .ok (.obj c ns xs, some i) (lentS e i) else .bad
  | _ => .bad
section
variable {X : Cx} {cl : Cl} {Wo : WX} {pos : Pos} {pins : List (Addr × Obj)}
variable {W : Wd} {Z F Z' F' : Addr → Prop} {P P' : Nat → V} {e : En} {T : Ts} {σ : L2.St} {H H' : Hp} {Q : VK} {s : Shared}
theorem hsA_of {st : List Stmt} {d} (h : HSs X cl Wo st d) : HSsA X cl Wo st d := fun body pins s σ H D I r => wpAt_of_wpAny (h.run pins s σ H D I r)
theorem rdS_seq {d d' : En → Out} {D : Ends} (h : rdS W Wo (sSeq d d') D σ H) : rdS W Wo d { D with nx := fun σ H => rdS W Wo d' D σ H } σ H := by
  obtain ⟨Z, F, P, e, T, r, k⟩ := h
  refine ⟨Z, F, P, e, T, r, ?_⟩
  unfold sSeq at k
  cases q : d e with
  | nx e1 => rw [q] at k; exact fun σ2 Z2 F2 H2 s2 r2 => ⟨Z2, F2, P, e1, T, r2, PostS.step s2 k⟩
  | rt o e1 => rw [q] at k; exact k
  | bk e1 => rw [q] at k; exact k
  | ct e1 => rw [q] at k; exact k
  | exc c ps e1 => rw [q] at k; exact k
  | bad => rw [q] at k; exact k
theorem hsA_cons {st : Stmt} {rest : List Stmt} {d d'} (h : HS X cl Wo st d) (h' : HSsA X cl Wo rest d') : HSsA X cl Wo (st :: rest) (sSeq d d') := fun body pins s σ H D I r => by
  refine ks_wpAt_execs_cons (wpAt_of_wpAny (thn (h.run pins s σ H _ I (rdS_seq r)) fun fl s' hs => ?_))
  cases fl with
  | next => obtain ⟨σ', H', I', q⟩ := hs; exact h' body pins s' σ' H' D I' q
  | brk => exact hs
  | cont => exact hs
  | ret u => exact hs
theorem rdC_keep {g : En → Rs (List Ag)} {R : List V → Hp → Prop} {q f x : Addr} (h : rdC W Wo g σ H R) (hq : H q = some (.met f x)) : rdC W Wo g σ H fun vs H' => H' q = some (.met f x) ∧ R vs H' := by
  obtain ⟨Z, F, P, e, T, r0, k⟩ := h
  refine ⟨Z, F, P, e, T, r0, ?_⟩
  have nF : ¬ F q := fun z => by have := r0.fin q z; rw [hq] at this; exact this
  cases qa : g e with
  | bad => rw [qa] at k; exact k
  | exc c ps e1 => rw [qa] at k; exact k
  | ok as e1 => rw [qa] at k; exact fun vs Z1 F1 H1 hl s1 r1 l1 => ⟨s1.keep q _ hq nF, k vs Z1 F1 H1 hl s1 r1 l1⟩
theorem rdSlf {cs : List String} {i : Nat} (h : rdGa W Wo (gSlf cs i) σ H Q) : ∃ (x C dx : Addr) (fs : List (Str × V)) (c : String), σ[i]? = some (some (.ref x)) ∧ H x = some (.ins C dx fs) ∧ c ∈ cs ∧ W.cl c = some C ∧
    ∀ H', (∀ a o, H a = some o → H' a = some o) → Q (.ref x) H' := by
  obtain ⟨Z, F, P, e, T, r, k⟩ := h
  unfold gSlf at k
  split at k
  · rename_i c ns xs q
    split at k
    · rename_i hc
      obtain ⟨sl, hs, hcn⟩ := slot_some q
      obtain ⟨v, hv, r1⟩ := r.lend hs hcn
      obtain ⟨f, ⟨a, C, dx, fs, fp, ev, hC, hH, _⟩, _⟩ := r1.top
      subst ev
      refine ⟨a, C, dx, fs, c, hv, hH, hc, hC, fun H' kp => ?_⟩
      have l1 : lends σ [((.obj c ns xs : O), some i)] [V.ref a] := ⟨hv, trivial⟩
      refine k (.ref a) Z F H' ⟨fun _ h => h, fun b o hb _ => kp b o hb, fun b hb hn => ?_, fun _ h => .inl h, fun _ h => .inl h⟩ ?_ l1
      · cases z : H b with
        | none => exact hb z
        | some o => rw [kp b o z] at hn; cases hn
      · have r2 := r1.grow kp
        unfold lentS
        rw [modS_eq hs]
        exact r2
    · exact k.elim
  · exact k.elim
theorem code_own {CX : CXT} {k : Nat} {f : Addr} {fd : FuncData} {ps : List Str} {sp : Sp} {E : XK} {us us' : List Value} {kw : List (Str × Value)} {vs : List V}
    (Fn : FnOk X.prog X.w X.K X.mg X.base CX k f fd ps sp) (hr : Room k X.A) (hb : BindsTo s fd ⟨us, kw⟩ (ps.zip us')) (r : Vals vs us') (I : Inv X pins σ H s) (h : sp vs H Q E) :
    codeAny (model X.prog X.w) X.A (.call (.ref f) ⟨us, kw⟩) (CR CX X.stack X.prog X.w H s Q E) s := Fn.run X.A X.stack s H ⟨us, kw⟩ us' vs Q E hr I.env0 hb r h
/-- super().m(a, ..) -/
theorem eval_super {D : Addr} {sf m : Str} {j k n0 : Nat} {f : Addr} {fd : FuncData} {ps : List Str} {den : Den} {p : List Nat} {cs : List String} {a : Expr} {es : List Expr} {g : En → Rs (List Ag)} {p0 p1 ap : Pos} {body : List Stmt}
    (S : SupX X D sf j) (hcs : ∀ c ∈ cs, ∀ C, cl.f c = some C → SupF X.K C D m f)
    (Fn : FnOk X.prog X.w X.K X.mg X.base (L2.CX X.prog X.w) k f fd ps (spD (Cx.wd X cl).un (n0 + 1) den)) (hr : Room k X.A) (tk : Takes X Wo) (hb : KB X.K fd ps [] (n0 + 1) 0 p) (ha : HC X cl Wo (a :: es) n0 g)
    (hm : (m == ("__class__" : Str)) = false) (hsf : (sf == ("__classdict__" : Str)) = false)
    (he : starEach (a :: es) X.env = (false, eval a X.env) :: starEach es X.env) (hpl : (backTo pos (starEach es X.env)).any (·.1) = false)
    {pl : Sem Bool} (hev : eval (.Call (.Attribute (.Call (.Name "super" p0) [] [] p1) m ap) (a :: es) [] pos) X.env = (do
      let ov ← attributeBase (.Call (.Name "super" p0) [] [] p1) m X.env (eval (.Call (.Name "super" p0) [] [] p1) X.env)
      standAt ap.atName
      let (f, first) ← holding [ov] (getMethod ov m pl)
      callWith pos f first (backTo pos (starEach (a :: es) X.env)) []))
    (ej : ∀ σ H s, Inv X pins σ H s → σ[j]? = some (some (.ref D)) → True)
    (I : Inv X pins σ H s) (hj : σ[j]? = some (some (.ref D))) (h : rdE (Cx.wd X cl) Wo (dCallF den p (cCons (gSlf cs 0) g)) σ H Q) :
    _root_.PySem.wpAt (model X.prog X.w) X.A (.func body X.env) (eval (.Call (.Attribute (.Call (.Name "super" p0) [] [] p1) m ap) (a :: es) [] pos) X.env) (EP X pins σ Q) X.xe s := by
  have h1 := rdCallF hb.pm (len_cons ha.len) h
  obtain ⟨x, C, dx, fs, c, e0, hx, hc, hC, K1⟩ := rdSlf (rdC_cons h1)
  have SF := hcs c hc C hC
  refine ks_wpAt_MethodCall (pl := pl) ?_ hev
  refine sup_base S I hm hsf e0 hj hx SF.sub fun so s1 hso I1 => ?_
  have g1 : ∀ a o, H a = some o → upd H so (SupO so D x C) a = some o := same_upd hso
  refine sup_meth I1 upd_same (g1 _ _ hx) SF S.opq hm fun q s2 hq I2 => ?_
  have g2 : ∀ a o, H a = some o → upd (upd H so (SupO so D x C)) q (.met f x) a = some o := fun a o z => same_upd hq a o (g1 a o z)
  have h2 := rdC_keep (K1 _ g2) (q := q) (f := f) (x := x) upd_same
  refine callwith_met (X := X) (q := q) (a := x) (by rw [he]; show (((false || (backTo pos (starEach es X.env)).any (·.1)) || false)) = false; rw [hpl]; rfl) SF.fi ?_
  rw [he]
  refine Calls.evalArgs_plain ?_
  have run := ha.run.run pos pins s2 σ _ _ I2 h2
  rw [he] at run
  refine thn run fun us s3 ⟨vs, H3, I3, r, hmet, hlen, hsp⟩ => ⟨met_P I3 hmet, ?_⟩
  refine wpAny_call (call_met I3 hmet ?_)
  have hlv : vs.length + 1 = n0 + 1 := hlen
  have hbt := hb.to s3 (.ref x :: us) [] I3.kIn (by rw [List.length_cons, ← r.length]; exact hlv) rfl
  rw [List.append_nil] at hbt
  have rv : Vals (V.ref x :: vs) (Value.ref x :: us) := .cons rfl r
  refine codeAny_mono (code_own Fn hr hbt (vals_ord rv p) I3 hsp) fun rr s' hq2 => ?_
  cases rr with
  | error e => exact pass_own tk σ pins H3 s3 e s' I3 hq2
  | ok fl =>
    cases fl with
    | ret u => exact I3.after hq2
    | next => exact False.elim hq2
    | brk => exact False.elim hq2
    | cont => exact False.elim hq2
end
end MX

/-! MXx: the row super().m(..), and a def with the cell __class__ by its body. -/
namespace MX
open PySem L2
/-- super().m(..): the slot j holds the class cn -/
def dSup (j : Nat) (cn : String) (d : En → Rs O) : En → Rs O := fun e => match slot e j with
  | some (.d (.cls c)) => if c = cn then d e else .bad
  | _ => .bad
section
variable {X : Cx} {cl : Cl} {Wo : WX} {pos : Pos} {pins : List (Addr × Obj)}
variable {W : Wd} {Z F Z' F' : Addr → Prop} {P P' : Nat → V} {e : En} {T : Ts} {σ : L2.St} {H H' : Hp} {Q : VK} {s : Shared}
theorem hsA_super {D : Addr} {cn : String} {sf m : Str} {j k n0 : Nat} {f : Addr} {fd : FuncData} {ps : List Str} {den : Den} {p : List Nat} {cs : List String} {a : Expr} {es : List Expr} {g : En → Rs (List Ag)} {p0 p1 p2 ap : Pos} {rest : List Stmt} {d' : En → Out}
    (S : SupX X D sf j) (hD : cl.f cn = some D) (hcs : ∀ c ∈ cs, ∀ C, cl.f c = some C → SupF X.K C D m f)
    (Fn : FnOk X.prog X.w X.K X.mg X.base (L2.CX X.prog X.w) k f fd ps (spD (Cx.wd X cl).un (n0 + 1) den)) (hr : Room k X.A) (tk : Takes X Wo) (hb : KB X.K fd ps [] (n0 + 1) 0 p) (ha : HC X cl Wo (a :: es) n0 g) (h' : HSsA X cl Wo rest d')
    (hm : (m == ("__class__" : Str)) = false := by decide) (hsf : (sf == ("__classdict__" : Str)) = false := by decide)
    (he : starEach (a :: es) X.env = (false, eval a X.env) :: starEach es X.env := by rfl) (hpl : (backTo pos (starEach es X.env)).any (·.1) = false := by rfl)
    {pl : Sem Bool} (hev : eval (.Call (.Attribute (.Call (.Name "super" p0) [] [] p1) m ap) (a :: es) [] pos) X.env = (do
      let ov ← attributeBase (.Call (.Name "super" p0) [] [] p1) m X.env (eval (.Call (.Name "super" p0) [] [] p1) X.env)
      standAt ap.atName
      let (f, first) ← holding [ov] (getMethod ov m pl)
      callWith pos f first (backTo pos (starEach (a :: es) X.env)) []) := by rfl)
    (hi : interactive X.env = false := by rfl) (hsw : swapsWith (.Call (.Attribute (.Call (.Name "super" p0) [] [] p1) m ap) (a :: es) [] pos) none p2.line X.env = pure false := by rfl) :
    HSsA X cl Wo (.Expr (.Call (.Attribute (.Call (.Name "super" p0) [] [] p1) m ap) (a :: es) [] pos) p2 :: rest) (sSeq (sExpr (dSup j cn (dCallF den p (cCons (gSlf cs 0) g)))) d') := fun body pins s σ H DD I r => by
  have r1 : rdE (Cx.wd X cl) Wo (dSup j cn (dCallF den p (cCons (gSlf cs 0) g))) σ H (fun _ H1 => rdS (Cx.wd X cl) Wo d' DD σ H1) :=
    rdE_out (rdS_seq r) (fun Z F P e T o v H1 r k => k σ Z F H1 .refl r.pop)
  have key : σ[j]? = some (some (.ref D)) ∧ rdE (Cx.wd X cl) Wo (dCallF den p (cCons (gSlf cs 0) g)) σ H (fun _ H1 => rdS (Cx.wd X cl) Wo d' DD σ H1) := by
    obtain ⟨Z, F, P, e, T, r0, k⟩ := r1
    unfold dSup at k
    split at k
    · rename_i c q
      split at k
      · rename_i hc
        subst hc
        obtain ⟨v, fp, hv, ⟨⟨a0, hcl, ev⟩, _⟩, _⟩ := slot_get r0 q
        have : a0 = D := Option.some.inj (hcl.symm.trans hD)
        subst this ev
        exact ⟨hv, Z, F, P, e, T, r0, k⟩
      · exact k.elim
    · exact k.elim
  refine ks_wpAt_execs_cons (ks_wpAt_Expr_any (ks_wpAt_mono (eval_super S hcs Fn hr tk hb ha hm hsf he hpl hev (fun _ _ _ _ _ => trivial) I key.1 key.2) (fun u s' hs => ?_) fun _ _ z => z) hi hsw)
  obtain ⟨v, H', I', _, q⟩ := hs
  exact h' body pins s' σ H' DD I' q
end
/-- the def has the cell __class__ -/
structure FunS (K : PySem.W.Frag) (x qual : Str) (st : Stmt) (f cc ca : Addr) (fd : FuncData) : Prop where
  ex : ∃ (oc : Value) (od : Option Addr) (kV doc pm : Value) (an : Option Addr) (ct : Value) (osl : Array (Option Value)),
    fd = PySem.W.fnX x qual (defArgs st) (defBody st) (defScope st) [("__class__", cc)] .none kV doc pm an (.ref ca) ct ∧ K.lookup f = some ⟨oc, od, .func fd, osl⟩ ∧ PySem.W.codeIn K (.ref ca) qual = true
  kp : PySem.W.keepIn K (.ref f) = true
def denFnS (mask : List Bool) (n : Nat) (cn : String) (b : En → Out) : Den := fun os => match b (initE (mask ++ [false]) (os ++ [.d (.cls cn)]) n) with
  | .rt o e => .ok o (outE mask.length e)
  | .nx e => .ok (.d .non) (outE mask.length e)
  | .exc c pl e => .exc c pl (outE mask.length e)
  | _ => .bad
abbrev nfS (x qual : Str) (st : Stmt) (cc ca : Addr) : NdefX.NF := ⟨x, qual, defArgs st, defBody st, defScope st, [("__class__", cc)], ca⟩
theorem KB.ofS {K : PySem.W.Frag} {x qual : Str} {st : Stmt} {f cc ca : Addr} {fd : FuncData} {ps ks : List Str} {n0 n1 : Nat} {p : List Nat} (Fn : FunS K x qual st f cc ca fd)
    (h : ∀ (kV doc pm : Value) (an : Option Addr) (ct : Value) (us ws : List Value), us.length = n0 → ws.length = n1 → bindArgs (PySem.W.fnX x qual (defArgs st) (defBody st) (defScope st) [("__class__", cc)] .none kV doc pm an (.ref ca) ct) ⟨us, ks.zip ws⟩ = pure (ps.zip (ord p (us ++ ws))))
    (pm : p.Perm (List.range (n0 + n1))) : KB K fd ps ks n0 n1 p := by
  obtain ⟨oc, od, kV, doc, pm', an, ct, osl, rfl, lk, hcd⟩ := Fn.ex
  exact ⟨fun s us ws _ h0 h1 => .of_eq (h kV doc pm' an ct us ws h0 h1), pm⟩
theorem fnS_ok {Pg : Program} {w : World} {K : PySem.W.Frag} {mg : Str → Option Value} {base : Heap} {cl : Cl} {cn : String} {x qual : Str} {st : Stmt} {f cc ca D : Addr} {fd : FuncData} {N ps : List Str} {k : Nat} {mask : List Bool} {db : En → Out}
    (hex : cl.ex = none) (Fn : FunS K x qual st f cc ca fd) (hce : ∃ (c0 : Value) (cd : Option Addr) (cs : Array (Option Value)), K.lookup cc = some ⟨c0, cd, .cell (some (.ref D)), cs⟩) (hD : cl.f cn = some D) (S : NdefX.NScope N ps ["__class__"] (defScope st)) (hm : mask.length = ps.length)
    (hb : ∀ (A : Around) (outer : List Env) (s : Shared) (H : Hp) (E : XK), Room k (A.deeper (NdefX.envF (nfS x qual st cc ca) f s.heap.objs.size)) →
      HSsA (NdefX.ncx (L2.CX Pg w) Pg w K mg base N (nfS x qual st cc ca) f A outer s H E) cl (fun c d _ H => E c d H) (defBody st) db) :
    FnOk Pg w K mg base (L2.CX Pg w) (k + 1) f fd ps (spD ⟨K, cl.f, none⟩ ps.length (denFnS mask N.length cn db)) := by
  obtain ⟨cf, ce⟩ := cl
  cases (show ce = none from hex)
  obtain ⟨oc, od, kV, doc, pm, an, ct, osl, rfl, lk, hcd⟩ := Fn.ex
  obtain ⟨c0, cdd, csl, hcc⟩ := hce
  refine ⟨spD_len rfl, fun A outer s H args us vs Q E hr e0 hbt rv hsp => ?_⟩
  have KX : K.In s.heap := e0.mod.kin.keeps fun b o e => (e0.bs b o e).1
  have lim : s.heap.NoLimit := e0.mod.nolimit.keeps fun b o e => (e0.bs b o e).1
  have hl : vs.length = ps.length := spD_len rfl _ _ _ _ hsp
  have hcn : H cc = none := (e0.bs cc _ (e0.mod.kin _ _ hcc)).2
  have hcell : s.heap.IsCell cc (some (.ref D)) := ⟨_, KX _ _ hcc, rfl⟩
  have C : NdefX.CellsAt (nfS x qual st cc ca).cl ["__class__"] [some (.ref D)] s.heap H := by
    have lk1 : ∀ y c, (nfS x qual st cc ca).cl.lookup y = some c → y = "__class__" ∧ c = cc := fun y c h => by
      have h : List.lookup y [(("__class__" : Str), cc)] = some c := h
      rw [List.lookup_cons] at h
      split at h
      · rename_i q; exact ⟨beq_iff_eq.mp q, (Option.some.inj h).symm⟩
      · cases h
    refine ⟨rfl, fun y c h => ?_, fun y z c h1 h2 => by rw [(lk1 y c h1).1, (lk1 z c h2).1], fun i y hy => ?_⟩
    · obtain ⟨_, rfl⟩ := lk1 y c h
      exact ⟨hcn, _, hcell⟩
    · cases i with
      | zero =>
        cases hy
        exact ⟨cc, rfl, fun v hv => by cases hv; exact ⟨_, rfl, hcell⟩⟩
      | succ i => simp at hy
  refine codeAny_call_function hr.depth (KX _ _ lk) rfl S.co S.gen rfl (PySem.W.codeRec_of KX hcd) (hbt _ _ _ _ ?_)
  refine wpAny_newFunctionEnv S.nocell (fun ⟨n, _⟩ hy => S.par n (List.of_mem_zip hy).1) (fun h₁ hns hsb => ⟨lim.fresh _ hsb, ?_⟩) S.kind
  show codeAny _ _ (.func (defBody st) (NdefX.envF (nfS x qual st cc ca) f s.heap.objs.size)) _ _
  refine ks_codeAny_funcAt ?_
  have kp : ∀ b o, s.heap.get? b = some o → h₁.get? b = some o := fun b o e => hsb.extBut b o (Nat.ne_of_lt (Heap.lt_size e)) (Heap.get?_push_of_some _ e)
  have I : Inv (NdefX.ncx (L2.CX Pg w) Pg w K mg base N (nfS x qual st cc ca) f A outer s H E) [] (NdefX.startF N vs [some (.ref D)]) H { s with heap := h₁, toks := s.toks + (ps.zip us).length } := NdefX.inv_startN S hr.hd e0 hl rv C hns kp
  have rd : rdS ⟨K, cf, none⟩ (fun c d _ H => E c d H) db { nx := fun _ H' => Q .non H', rt := Q } (NdefX.startF N vs [some (.ref D)]) H := by
    obtain ⟨Z, F, P, os, r, hlo, hn, kk⟩ := hsp
    have hmo : (mask ++ [false]).length = (os ++ [O.d (.cls cn)]).length := by rw [List.length_append, List.length_append, hm, hlo, hn]; rfl
    obtain ⟨⟨fe, ft, ⟨_, efe⟩, h2, nd, hF⟩, sep, zin, fin, _⟩ := r
    subst efe
    rw [List.map_fst_zip (Nat.le_of_eq hlo), List.map_snd_zip (Nat.le_of_eq hlo.symm)] at h2
    have hpl : ps.length + 1 ≤ N.length := by
      have q := congrArg List.length S.pre
      rw [List.length_take, List.length_append] at q
      have : ["__class__"].length = 1 := rfl
      have q2 : (["__class__"] : List Str).length = 1 := rfl
      omega
    have hon : (os ++ [O.d (.cls cn)]).length ≤ N.length := by rw [List.length_append, hlo, hn]; exact hpl
    have h3 : ROs ⟨K, cf, none⟩ H Z (os ++ [O.d (.cls cn)]) (vs ++ [V.ref D]) (ft ++ []) := ROs.append h2 ⟨.ref D, [], [], [], rfl, rfl, ⟨⟨D, hD, rfl⟩, rfl⟩, rfl, rfl⟩
    rw [List.append_nil] at h3
    have hP : ∀ (i : Nat) v, (vs ++ [V.ref D])[i]? = some v → (vs ++ [V.ref D]).getD i .non = v := fun i v h => by rw [List.getD_eq_getElem?_getD, h]; rfl
    have hst : NdefX.startF N vs [some (V.ref D)] = (vs ++ [V.ref D]).map some ++ List.replicate (N.length - (vs ++ [V.ref D]).length) none := by
      unfold NdefX.startF
      rw [List.map_append, List.append_assoc, List.length_append]
      show _ = _ ++ ([some (V.ref D)] ++ _)
      have : N.length - vs.length - [some (V.ref D)].length = N.length - (vs.length + [V.ref D].length) := by show _ - 1 = _ - (_ + 1); omega
      rw [this]
    have hov : (os ++ [O.d (.cls cn)]).length = (vs ++ [V.ref D]).length := by rw [List.length_append, List.length_append, hlo]; rfl
    have r0 : RS ⟨K, cf, none⟩ Z F (fun i => (vs ++ [V.ref D]).getD i .non) (initE (mask ++ [false]) (os ++ [O.d (.cls cn)]) N.length) [] (NdefX.startF N vs [some (.ref D)]) H := by
      rw [hst]
      refine ⟨⟨ft, [], init_env hmo hon h3, ⟨rfl, rfl⟩, by rw [List.append_nil]; exact nd, fun a ha => hF a (by rw [List.append_nil] at ha; exact ha)⟩, sep, zin, fin, fun i sl hi hp => ?_, fun i a h => by cases h⟩
      obtain ⟨v, hv⟩ := init_pin hmo hov i sl hi hp
      rw [List.getElem?_append_left (by rw [List.length_map]; exact lt_of_get hv), List.getElem?_map, hv]
      show some (some v) = some (some ((vs ++ [V.ref D]).getD i .non))
      rw [hP i v hv]
    have hP2 : ∀ (i : Nat) v, vs[i]? = some v → (vs ++ [V.ref D]).getD i .non = v := fun i v h => hP i v (by rw [List.getElem?_append_left (lt_of_get h)]; exact h)
    refine ⟨Z, F, _, _, [], r0, ?_⟩
    unfold denFnS at kk
    cases q : db (initE (mask ++ [false]) (os ++ [O.d (.cls cn)]) N.length) with
    | nx e => rw [q] at kk; exact fun σ' Z' F' H' s' r' => kk .non Z' F' H' _ s' ((r'.outs (n := mask.length) hP2).push (x := .non) (v := .non) rfl)
    | rt o e => rw [q] at kk; exact fun v σ' Z' F' H' s' r' => kk v Z' F' H' _ s' (r'.outs (n := mask.length) hP2)
    | exc c pl e => rw [q] at kk; exact fun σ' Z' F' H' C dd hc py s' r' => kk Z' F' H' _ C dd hc py s' (r'.outs (n := mask.length) hP2)
    | bk e => rw [q] at kk; exact kk.elim
    | ct e => rw [q] at kk; exact kk.elim
    | bad => rw [q] at kk; exact kk.elim
  refine ks_wpAt_mono (hb A outer s H E (hr.deeper _) (defBody st) [] _ _ H _ I rd) (fun fl s' hs => ?_) fun e s' hs => hs
  have fin : ∀ {σ' : L2.St} {H' : Hp} {v : V} {u : Value}, Inv (NdefX.ncx (L2.CX Pg w) Pg w K mg base N (nfS x qual st cc ca) f A outer s H E) [] σ' H' s' → L2.RelV v u → Q v H' → CE outer Pg w H s Q u s' :=
    fun {σ' H' v u} J rv q => ⟨v, H', J.os, J.bare, J.base, J.hok, rv, q⟩
  cases fl with
  | ret u =>
    obtain ⟨v, σ', H', J, rv, q⟩ := hs
    exact fin J rv q
  | next =>
    obtain ⟨σ', H', J, q⟩ := hs
    exact fin (v := V.non) (u := Value.none) J rfl q
  | brk =>
    obtain ⟨_, _, _, q⟩ := hs
    exact False.elim q
  | cont =>
    obtain ⟨_, _, _, q⟩ := hs
    exact False.elim q
end MX

/-! MXy: instances of own classes: fields read and stored, instances made. -/
namespace MX
open PySem L2
section
variable {X : Cx} {cl : Cl} {Wo : WX} {pos : Pos}
variable {W : Wd} {Z F Z' F' : Addr → Prop} {P P' : Nat → V} {e : En} {T : Ts} {σ : L2.St} {H H' : Hp} {Q : VK}
/-! ### o.f -/
def fldD (f : Str) : List Str → List D → Option D
  | n :: ns, x :: xs => if n = f then some x else fldD f ns xs
  | _, _ => none
def fldO (f : Str) : List Str → List O → Option O
  | n :: ns, x :: xs => if n = f then (match x with | .d y => some (.d y) | _ => none) else fldO f ns xs
  | _, _ => none
def fFld (cs : List String) (f : Str) : O → Option O
  | .d (.obj c ns xs) => if c ∈ cs then (fldD f ns xs).map .d else none
  | .obj c ns xs => if c ∈ cs then fldO f ns xs else none
  | _ => none
theorem fldD_ok {f : Str} : ∀ {ns : List Str} {xs : List D} {fs : List (Str × V)} {y : D}, fs.map (·.1) = ns → RDs W H Z xs (fs.map (·.2)) → fldD f ns xs = some y → ∃ v, fs.lookup f = some v ∧ RD W H Z y v
  | [], _, _, _, _, _, h => by simp [fldD] at h
  | n :: ns, [], _, _, _, _, h => by simp [fldD] at h
  | n :: ns, x :: xs, [], _, e, _, _ => by cases e
  | n :: ns, x :: xs, (g, w) :: fs, y, e, r, h => by
    obtain ⟨v', r', ev, h1, h2⟩ := r
    have e1 : g = n ∧ fs.map (·.1) = ns := by simpa using e
    have e2 : w = v' ∧ fs.map (·.2) = r' := by simpa using ev
    obtain ⟨rfl, e1⟩ := e1
    obtain ⟨rfl, rfl⟩ := e2
    unfold fldD at h
    split at h
    · rename_i q
      cases h
      subst q
      exact ⟨w, by rw [List.lookup_cons]; simp, h1⟩
    · rename_i q
      obtain ⟨v, hl, hv⟩ := fldD_ok (ns := ns) e1 h2 h
      refine ⟨v, ?_, hv⟩
      rw [List.lookup_cons, show (f == g) = false from beq_eq_false_iff_ne.mpr fun z => q z.symm]
      exact hl
theorem fldO_ok {f : Str} : ∀ {ns : List Str} {xs : List O} {fs : List (Str × V)} {fp : List Addr} {y : O}, fs.map (·.1) = ns → ROs W H Z xs (fs.map (·.2)) fp → fldO f ns xs = some y → ∃ d v, y = .d d ∧ fs.lookup f = some v ∧ RD W H Z d v
  | [], _, _, _, _, _, _, h => by simp [fldO] at h
  | n :: ns, [], _, _, _, _, _, h => by simp [fldO] at h
  | n :: ns, x :: xs, [], _, _, e, _, _ => by cases e
  | n :: ns, x :: xs, (g, w) :: fs, fp, y, e, r, h => by
    obtain ⟨v', r', f1, f2, ev, _, h1, h2⟩ := r
    have e1 : g = n ∧ fs.map (·.1) = ns := by simpa using e
    have e2 : w = v' ∧ fs.map (·.2) = r' := by simpa using ev
    obtain ⟨rfl, e1⟩ := e1
    obtain ⟨rfl, rfl⟩ := e2
    unfold fldO at h
    split at h
    · rename_i q
      subst q
      cases x with
      | d z => cases h; exact ⟨z, w, rfl, by rw [List.lookup_cons]; simp, h1.1⟩
      | _ => cases h
    · rename_i q
      obtain ⟨d, v, ey, hl, hv⟩ := fldO_ok (ns := ns) e1 h2 h
      refine ⟨d, v, ey, ?_, hv⟩
      rw [List.lookup_cons, show (f == g) = false from beq_eq_false_iff_ne.mpr fun z => q z.symm]
      exact hl
def rFldR (K : PySem.W.Frag) (f : Str) : V → Hp → VK → Prop := fun x H Q => ∃ a C dx fs v, x = .ref a ∧ H a = some (.ins C dx fs) ∧ Cls K C ∧ NoAttr K C f ∧ fs.lookup f = some v ∧ Q v H
theorem uFld {cs : List String} {f : Str} (hc : ∀ c ∈ cs, ∀ C, W.cl c = some C → Cls W.K C ∧ NoAttr W.K C f) : UnOk W (fFld cs f) (rFldR W.K f) := by
  intro Z F P e T σ H a z v Q hf sa rs k
  unfold fFld at hf
  split at hf
  · rename_i c ns xs
    split at hf
    · rename_i hm
      obtain ⟨a0, C, dx, fs, ev, hz, hC, hH, hn, hr⟩ := sa.d
      cases q : fldD f ns xs with
      | none => rw [q] at hf; cases hf
      | some y =>
        rw [q] at hf; cases hf
        obtain ⟨w, hl, hw⟩ := fldD_ok hn hr q
        obtain ⟨c1, c2⟩ := hc c hm C hC
        exact ⟨a0, C, dx, fs, w, ev, hH, c1, c2, hl, k w _ _ _ .refl (rs.push hw)⟩
    · cases hf
  · rename_i c ns xs
    split at hf
    · rename_i hm
      obtain ⟨fp, a0, C, dx, fs, fp', ev, hC, hH, hn, _, hr⟩ := sa
      obtain ⟨d, w, ey, hl, hw⟩ := fldO_ok hn hr hf
      subst ey
      obtain ⟨c1, c2⟩ := hc c hm C hC
      exact ⟨a0, C, dx, fs, w, ev, hH, c1, c2, hl, k w _ _ _ .refl (rs.push hw)⟩
    · cases hf
  · cases hf
theorem he_fld {cs : List String} {f : Str} {ex : Expr} {d : En → Rs Ar} (hc : ∀ c ∈ cs, ∀ C, cl.f c = some C → Cls X.K C ∧ NoAttr X.K C f) (h : HV X cl Wo ex d) (hb : attributeBase ex f X.env (eval ex X.env) = eval ex X.env := by rfl) : HE X cl Wo (.Attribute ex f pos) (dUn (fFld cs f) d) :=
  PE.imp (pe_fld h hb) fun σ H Q q => rd1 (r := rFldR X.K f) (uFld (W := Cx.wd X cl) hc) q
/-! ### self.f = v -/
def putNs (f : Str) : List Str → List Str
  | [] => [f]
  | n :: ns => if n = f then n :: ns else n :: putNs f ns
def putOs (f : Str) (o : O) : List Str → List O → List O
  | n :: ns, x :: xs => if n = f then o :: xs else x :: putOs f o ns xs
  | _, xs => xs ++ [o]
theorem putF_ns {f : Str} {v : V} : ∀ fs : List (Str × V), (putF f v fs).map (·.1) = putNs f (fs.map (·.1))
  | [] => rfl
  | (g, x) :: fs => by
    show (if g = f then (g, v) :: fs else (g, x) :: putF f v fs).map _ = (if g = f then _ else _)
    split
    · rfl
    · show g :: (putF f v fs).map _ = _
      rw [putF_ns fs]
theorem putF_os {f : Str} {v : V} {o : O} {fv : List Addr} (hv : RO W H Z o v fv) : ∀ {fs : List (Str × V)} {os : List O} {fp : List Addr}, ROs W H Z os (fs.map (·.2)) fp →
    ∃ fp', ROs W H Z (putOs f o (fs.map (·.1)) os) ((putF f v fs).map (·.2)) fp' ∧ ((fv ++ fp).Nodup → fp'.Nodup) ∧ ∀ b ∈ fp', b ∈ fv ++ fp
  | [], os, fp, r => by
    obtain ⟨e0, e1⟩ : os = [] ∧ fp = [] := by
      cases os with
      | nil => exact ⟨rfl, r.2⟩
      | cons o os => obtain ⟨_, _, _, _, ev, _⟩ := r; cases ev
    subst e0 e1
    exact ⟨fv ++ [], ⟨v, [], fv, [], rfl, rfl, hv, rfl, rfl⟩, id, fun _ h => h⟩
  | (g, x) :: fs, [], fp, r => by cases r.1
  | (g, x) :: fs, y :: os, fp, r => by
    obtain ⟨v', r', f1, f2, ev, ef, h1, h2⟩ := r
    have e2 : x = v' ∧ fs.map (·.2) = r' := by simpa using ev
    obtain ⟨rfl, rfl⟩ := e2
    subst ef
    obtain ⟨fp', h3, h4, h5⟩ := putF_os (f := f) hv h2
    show ∃ fp', ROs W H Z (if g = f then o :: os else y :: putOs f o (fs.map (·.1)) os) ((if g = f then (g, v) :: fs else (g, x) :: putF f v fs).map (·.2)) fp' ∧ _
    split
    · refine ⟨fv ++ f2, ⟨v, _, fv, f2, rfl, rfl, hv, h2⟩, fun nd => nd.sublist (List.Sublist.append_left (List.sublist_append_right _ _) _), fun b hb => ?_⟩
      rcases List.mem_append.mp hb with q | q
      · exact List.mem_append_left _ q
      · exact List.mem_append_right _ (List.mem_append_right _ q)
    · refine ⟨f1 ++ fp', ⟨x, _, f1, fp', rfl, rfl, h1, h3⟩, fun nd => ?_, fun b hb => ?_⟩
      · have nd1 := List.nodup_append.mp nd
        have nd2 := List.nodup_append.mp nd1.2.1
        rw [List.nodup_append]
        refine ⟨nd2.1, h4 (nd.sublist (List.Sublist.append_left (List.sublist_append_right _ _) _)), fun b hb c hc e => ?_⟩
        rcases List.mem_append.mp (h5 c hc) with q | q
        · exact nd1.2.2 c q b (List.mem_append_left _ hb) e.symm
        · exact nd2.2.2 b hb c q e
      · rcases List.mem_append.mp hb with q | q
        · exact List.mem_append_right _ (List.mem_append_left _ q)
        · rcases List.mem_append.mp (h5 b q) with q | q
          · exact List.mem_append_left _ q
          · exact List.mem_append_right _ (List.mem_append_right _ q)
/-- the field f of the instance in the slot i -/
def sFst (cs : List String) (i : Nat) (f : Str) (dv : En → Rs O) : En → Out := fun e => (dv e).out fun o e1 => match slot e1 i with
  | some (.obj c ns xs) => if c ∈ cs ∧ ns.length < 1000 then .nx (putS e1 i (.obj c (putNs f ns) (putOs f o ns xs))) else .bad
  | _ => .bad
theorem hs_fst {cs : List String} {i : Nat} {f x : Str} {p1 p2 : Pos} {value : Expr} {dv : En → Rs O} (hc : ∀ c ∈ cs, ∀ C, cl.f c = some C → Cls X.K C ∧ NoAttr X.K C f) (hx : PE X (.Name x p1) (tVar i)) (hv : HE X cl Wo value dv)
    (hs : swapsWith value (some (.Attribute (.Name x p1) f p2)) pos.line X.env = pure false := by rfl) : HS X cl Wo (.Assign [.Attribute (.Name x p1) f p2] value pos) (sFst cs i f dv) :=
  PS.imp (ps_fld hx hv hs) fun D σ H h => rdE_out h fun Z F P e T o v H1 r k => by
    split at k
    · rename_i c ns xs q
      split at k
      · rename_i hm
        obtain ⟨s, hsl, hcn⟩ := slot_some q
        obtain ⟨w, hw, r1⟩ := r.lend hsl hcn
        obtain ⟨fp, ⟨a, C, dx, fs, fp', ev, hC, hH, hn, ef, hr⟩, _⟩ := r1.top
        subst ev
        obtain ⟨c1, c2⟩ := hc c hm.1 C hC
        have hlen : fs.length < 1000 := by
          have := hm.2
          rw [← hn, List.length_map] at this
          exact this
        refine ⟨.ref a, hw, a, C, dx, fs, rfl, hH, c1, c2, hlen, ?_⟩
        have r2 : RS (Cx.wd X cl) Z F P (e.set i s.lent) (([((.obj c ns xs : O), V.ref a), (o, v)] : Ts) ++ T) σ H1 := r1
        obtain ⟨s3, r3⟩ := RS.write (C' := [((.obj c (putNs f ns) (putOs f o ns xs) : O), V.ref a)]) (o := .ins C dx (putF f v fs)) r2 trivial (fun fC hCx => by
          obtain ⟨v', rr, f1, f2, ev, ef, ⟨a', C', dx', fs', f3, ev', _, _, _, e3, _⟩, _⟩ := hCx
          cases ev
          cases ev'
          rw [ef, e3]
          exact List.mem_append_left _ List.mem_cons_self) (fun kp fC hCx nd => by
          obtain ⟨v', rr, f1, f2, ev, ef, ⟨a', C', dx', fs', f3, ev', hC', hH', hn', e3, hcs⟩, ho⟩ := hCx
          cases ev
          cases ev'
          rw [hH] at hH'
          cases hH'
          have ho' := ros_one ho
          subst ef e3
          have nd1 := List.nodup_append.mp nd
          have nd3 := List.nodup_cons.mp nd1.1
          have na : ∀ b ∈ f3, b ≠ a := fun b hb q => nd3.1 (by rw [← q]; exact hb)
          have nb : ∀ b ∈ f2, b ≠ a := fun b hb q => nd1.2.2 a List.mem_cons_self b hb q.symm
          have k1 := hcs.keep kp _ _ _ fun b hb u hu => by rw [upd_ne (na b hb)]; exact hu
          have k2 := ho'.keep kp _ _ _ fun b hb u hu => by rw [upd_ne (nb b hb)]; exact hu
          obtain ⟨fp2, h3, h4, h5⟩ := putF_os (f := f) k2 k1
          rw [hn] at h3
          have nd4 : (f2 ++ f3).Nodup := by
            rw [List.nodup_append]
            exact ⟨nd1.2.1, nd3.2, fun b hb c hc e => nd1.2.2 c (List.mem_cons_of_mem _ hc) b hb e.symm⟩
          have na2 : a ∉ fp2 := fun hb => by
            rcases List.mem_append.mp (h5 a hb) with q | q
            · exact nb a q rfl
            · exact na a q rfl
          refine ⟨a :: fp2 ++ [], ⟨.ref a, [], a :: fp2, [], rfl, rfl, ⟨a, C, dx, putF f v fs, fp2, rfl, hC, upd_same, by rw [putF_ns, hn], rfl, h3⟩, rfl, rfl⟩, by rw [List.append_nil]; exact List.nodup_cons.mpr ⟨na2, h4 nd4⟩, fun b hb => ?_⟩
          rw [List.append_nil] at hb
          rcases List.mem_cons.mp hb with q | q
          · rw [q]; exact List.mem_append_left _ List.mem_cons_self
          · rcases List.mem_append.mp (h5 b q) with q | q
            · exact List.mem_append_right _ q
            · exact List.mem_append_left _ (List.mem_cons_of_mem _ q))
        have e1 : (e.set i s.lent)[i]? = some s.lent := by
          rw [List.getElem?_set_self (lt_of_get hsl)]
        have r4 := RS.back (T := T) r3 e1 (by cases s <;> rfl) hw
        refine k σ Z F _ s3 ?_
        have : putS e i (.obj c (putNs f ns) (putOs f o ns xs)) = (e.set i s.lent).set i (s.lent.put (.obj c (putNs f ns) (putOs f o ns xs))) := by
          unfold putS
          rw [modS_eq hsl, List.set_set]
          congr 1
          cases s <;> first | rfl | (cases hcn)
        rw [this]
        exact r4
      · exact k.elim
    · exact k.elim
end
end MX

/-! MXz: instances made, methods called. -/
namespace MX
open PySem L2
/-- what C(..) makes of its __init__'s end -/
def mkR (e1 : En) (as : List Ag) (r : RF) : Rs O := match r, as with
  | .ok (.d .non) (some o :: ps), _ :: bs => match wb e1 bs ps with
    | some e2 => .ok o e2
    | none => .bad
  | .exc c pl (_ :: ps), _ :: bs => match wb e1 bs ps with
    | some e2 => .exc c pl e2
    | none => .bad
  | _, _ => .bad
/-- C(..): den is its __init__; p tells for each parameter which argument (0: the new instance, always first) -/
def dMake (c : String) (den : Den) (p : List Nat) (g : En → Rs (List Ag)) : En → Rs O := fun e => (g e).bind fun as e1 => mkR e1 (ord (0 :: p) ((.obj c [] [], none) :: as)) (den ((ord (0 :: p) ((.obj c [] [], none) :: as)).map (·.1)))
section
variable {X : Cx} {cl : Cl} {Wo : WX} {pos : Pos}
variable {W : Wd} {Z F Z' F' : Addr → Prop} {P P' : Nat → V} {e : En} {T : Ts} {σ : L2.St} {H H' : Hp} {Q : VK}
theorem RS.newObj {c : String} {C x dx : Addr} (r : RS W Z F P e T σ H) (hC : W.cl c = some C) (hx : H x = none) (hd : H dx = none) (hne : dx ≠ x) :
    Stp Z F H Z (fun a => F a ∨ a = x) (upd (upd H dx (.own x)) x (.ins C dx [])) ∧ RS W Z (fun a => F a ∨ a = x) P e ((.obj c [] [], .ref x) :: T) σ (upd (upd H dx (.own x)) x (.ins C dx [])) := by
  have hx1 : upd H dx (.own x) x = none := by rw [upd_ne hne.symm]; exact hx
  have r1 := r.grow (same_upd (o := .own x) hd)
  refine ⟨(Stp.alloc hd).trans (Stp.allocF hx1), ?_⟩
  obtain ⟨⟨fe, ft, h1, h2, nd, hF⟩, sep, zin, fin, pin, px⟩ := r1
  have k := same_upd (o := .ins C dx []) hx1
  have kp : Kp (upd H dx (.own x)) Z (upd (upd H dx (.own x)) x (.ins C dx [])) Z := ⟨fun _ h => h, fun a o _ h => k a o h, fun a _ h => k a _ h, fun a _ _ h => k a _ h⟩
  have pF : ∀ a, F a → a ≠ x := fun a fa z => by subst z; exact notMut_none hx1 (fin a fa)
  refine ⟨⟨fe, x :: ft, h1.keep kp _ _ _ fun a _ u q => k a u q, ⟨.ref x, _, [x], ft, rfl, rfl, ⟨x, C, dx, [], [], rfl, hC, upd_same, rfl, rfl, rfl, rfl⟩, h2.keep kp _ _ _ fun a _ u q => k a u q⟩, ?_, fun a ha => ?_⟩, fun a ha z => ?_, fun a z q => ?_, fun a ha => ?_, pin, px⟩
  · rw [List.perm_middle.nodup_iff, List.nodup_cons]
    exact ⟨fun z => pF x (hF x z) rfl, nd⟩
  · rcases List.mem_append.mp ha with q | q
    · exact .inl (hF a (List.mem_append_left _ q))
    · rcases List.mem_cons.mp q with q | q
      · exact .inr q
      · exact .inl (hF a (List.mem_append_right _ q))
  · rcases ha with q | q
    · exact sep a q z
    · subst q; exact zin a z hx1
  · by_cases q2 : a = x
    · rw [q2, upd_same] at q; cases q
    · rw [upd_ne q2] at q; exact zin a z q
  · rcases ha with q | q
    · have m := fin a q
      rw [upd_ne (pF a q)]; exact m
    · rw [q, upd_same]; trivial
theorem rdMake {c : String} {C : Addr} {den : Den} {p : List Nat} {n : Nat} {g : En → Rs (List Ag)} (hC : W.cl c = some C) (hp : (0 :: p).Perm (List.range (n + 1))) (hn : LenIs n g) (h : rdE W Wo (dMake c den (p) g) σ H Q) :
    rdC W Wo g σ H fun vs H1 => vs.length = n ∧ ∀ x dx, H1 x = none → H1 dx = none → dx ≠ x → spD W.un (n + 1) den (ord (0 :: p) (.ref x :: vs)) (upd (upd H1 dx (.own x)) x (.ins C dx [])) (fun v H2 => v = .non ∧ Q (.ref x) H2) (fun c d H => Wo c d σ H) := by
  obtain ⟨Z, F, P, e, T, r0, k⟩ := h
  refine ⟨Z, F, P, e, T, r0, ?_⟩
  unfold dMake at k
  cases qa : g e with
  | bad => rw [qa] at k; exact k
  | exc c ps e1 => rw [qa] at k; exact k
  | ok as e1 =>
    rw [qa] at k
    simp only [Rs.bind_ok] at k
    intro vs Z1 F1 H1 hl s1 r1 l1
    have han : as.length = n := hn e as e1 qa
    have hvn : vs.length = n := by rw [← hl, han]
    refine ⟨hvn, fun x dx hx hd hne => ?_⟩
    obtain ⟨s2, rO⟩ := r1.newObj hC hx hd hne
    have eA : ord (0 :: p) (((.obj c [] [], none) : Ag) :: as) = ((.obj c [] [], none) : Ag) :: ord p (((.obj c [] [], none) : Ag) :: as) := rfl
    have eV : ord (0 :: p) (V.ref x :: vs) = V.ref x :: ord p (V.ref x :: vs) := rfl
    have hl2 : ((((.obj c [] [], none) : Ag) :: as).map (·.1)).length = (V.ref x :: vs).length := by rw [List.length_map, List.length_cons, List.length_cons, hl]
    have r2 : RS W Z1 (fun a => F1 a ∨ a = x) P e1 (((ord (0 :: p) (((.obj c [] [], none) : Ag) :: as)).map (·.1)).zip (ord (0 :: p) (V.ref x :: vs)) ++ T) σ (upd (upd H1 dx (.own x)) x (.ins C dx [])) := by
      have rO' : RS W Z1 (fun a => F1 a ∨ a = x) P e1 (((((.obj c [] [], none) : Ag) :: as).map (·.1)).zip (V.ref x :: vs) ++ T) σ (upd (upd H1 dx (.own x)) x (.ins C dx [])) := rO
      refine rO'.perm (List.Perm.append_right _ ?_)
      rw [← ord_map, ← ord_zip hl2]
      refine (ord_perm ?_).symm
      rw [List.length_zip, hl2, Nat.min_self, List.length_cons, hvn]
      exact hp
    have hlo : (ord (0 :: p) (((.obj c [] [], none) : Ag) :: as)).length = (ord (0 :: p) (V.ref x :: vs)).length := ord_len (by rw [List.length_cons, List.length_cons, hl])
    have hlb : (ord p (((.obj c [] [], none) : Ag) :: as)).length = (ord p (V.ref x :: vs)).length := ord_len (by rw [List.length_cons, List.length_cons, hl])
    have hon : (ord (0 :: p) (V.ref x :: vs)).length = n + 1 := by
      have := (ord_perm (p := 0 :: p) (l := V.ref x :: vs) (by rw [List.length_cons, hvn]; exact hp)).length_eq
      rw [this, List.length_cons, hvn]
    have l2 : lends σ (ord p (((.obj c [] [], none) : Ag) :: as)) (ord p (V.ref x :: vs)) := lends_ord (as := ((.obj c [] [], none) : Ag) :: as) (vs := V.ref x :: vs) (by rw [List.length_cons, List.length_cons, hl]) l1
    obtain ⟨Fc, rc, back⟩ := r2.frame P
    refine ⟨Z1, Fc, P, (ord (0 :: p) (((.obj c [] [], none) : Ag) :: as)).map (·.1), rc, by rw [List.length_map, hlo], hon, ?_⟩
    cases qd : den ((ord (0 :: p) (((.obj c [] [], none) : Ag) :: as)).map (·.1)) with
    | bad => rw [qd] at k; exact k.elim
    | ok o ps =>
      rw [qd] at k
      rw [eA] at k
      cases o with
      | d od =>
        cases od with
        | non =>
          cases ps with
          | nil => exact k.elim
          | cons q ps =>
            cases q with
            | none => exact k.elim
            | some o' =>
              simp only [mkR] at k
              intro v Z2 F2 H2 P2 s3 r3
              cases qw : wb e1 (ord p (((.obj c [] [], none) : Ag) :: as)) ps with
              | none => rw [qw] at k; exact k.elim
              | some e2 =>
                rw [qw] at k
                obtain ⟨F3, s4, r4⟩ := back Z2 F2 H2 _ P2 s3 r3
                rw [eV] at r4
                have r4' : RS W Z2 F3 P e1 ((.d .non, v) :: ((o', V.ref x) :: (livs ps (ord p (V.ref x :: vs)) ++ T))) σ H2 := r4
                have hv : v = .non := r4'.topD
                have r5 : RS W Z2 F3 P e1 (livs ps (ord p (V.ref x :: vs)) ++ ((o', V.ref x) :: T)) σ H2 := r4'.pop.perm List.perm_middle.symm
                exact ⟨hv, k (.ref x) Z2 F3 H2 ((s1.trans s2).trans s4) (r5.wb hlb l2 qw)⟩
        | _ => exact k.elim
      | _ => exact k.elim
    | exc c2 pl ps =>
      rw [qd] at k
      rw [eA] at k
      cases ps with
      | nil => exact k.elim
      | cons q ps =>
        simp only [mkR] at k
        intro Z2 F2 H2 P2 C2 dd hc py s3 r3
        cases qw : wb e1 (ord p (((.obj c [] [], none) : Ag) :: as)) ps with
        | none => rw [qw] at k; exact k.elim
        | some e2 =>
          rw [qw] at k
          obtain ⟨F3, s4, r4⟩ := back Z2 F2 H2 _ P2 s3 r3
          rw [eV] at r4
          have r5 : RS W Z2 F3 P e1 (livs ps (ord p (V.ref x :: vs)) ++ T) σ H2 := by
            cases q with
            | none => exact r4
            | some o' => exact r4.pop
          exact k Z2 F3 H2 C2 dd hc (Pay.wx (W := W.un) (W' := W) ⟨rfl, rfl⟩ py) ((s1.trans s2).trans s4) (r5.wb hlb l2 qw)
theorem run_mk {k : Nat} {f C : Addr} {fd : FuncData} {ps : List Str} {sp : Sp} {E : XK} {pins : List (Addr × Obj)} {s : Shared} {us : List Value} {kw : List (Str × Value)} {gV : V → List V} {gU : Value → List Value}
    (M : Mk X.K C f) (Fn : FnOk X.prog X.w X.K X.mg X.base (L2.CX X.prog X.w) k f fd ps sp) (hr : Room (k + 1) X.A) (hb : ∀ (s : Shared) (x : Value), X.K.In s.heap → BindsTo s fd ⟨x :: us, kw⟩ (ps.zip (gU x))) (r : ∀ x u, RelV x u → Vals (gV x) (gU u)) (hx : PassesAt (L2.CX X.prog X.w) X σ E) (I : Inv X pins σ H s)
    (h : ∀ x dx, H x = none → H dx = none → dx ≠ x → sp (gV (V.ref x)) (upd (upd H dx (.own x)) x (.ins C dx [])) (fun v H2 => v = .non ∧ Q (.ref x) H2) E) :
    wpAny (model X.prog X.w) X.A (call (.ref C) us kw) (EP X pins σ Q) X.xe s := by
  have hq := h (s.heap.objs.size + 1) s.heap.objs.size (I.hok.fresh (Nat.le_succ _)) (I.hok.fresh (Nat.le_refl _)) (Nat.ne_of_lt (Nat.lt_succ_self _))
  have I2 := Inv.made (C := C) I
  refine wpAny_call (make_map (f := f) I.kIn M.makes M.init (beq_iff_eq.mp M.fn) (codeAny_mono (Fn.run _ X.stack _ _ ⟨Value.ref (s.heap.objs.size + 1) :: us, kw⟩ (gU (Value.ref (s.heap.objs.size + 1))) _ _ E (hr.make C us kw)
    (I2.env0.make C us kw) (hb _ _ I2.kIn) (r (V.ref (s.heap.objs.size + 1)) _ rfl) hq) fun r s' hq' => ?_))
  cases r with
  | error e => exact hx pins _ _ e s' I2 hq'
  | ok fl =>
    cases fl with
    | ret u =>
      obtain ⟨v, H', I3, rv, ev, q3⟩ := I2.after hq'
      subst ev
      exact ⟨rv, ⟨V.ref (s.heap.objs.size + 1), H', I3, rfl, q3⟩⟩
    | next => exact False.elim hq'
    | brk => exact False.elim hq'
    | cont => exact False.elim hq'
section
variable {k : Nat} {f C : Addr} {c : String} {fd : FuncData} {ps ks : List Str} {n0 n1 : Nat} {p : List Nat} {den : Den} {x : Str} {np : Pos} {a : Expr} {es : List Expr} {kws : List Keyword} {g g' : En → Rs (List Ag)}
/-- C(..) -/
theorem he_make (M : Mk X.K C f) (hC : cl.f c = some C) (Fn : FnOk X.prog X.w X.K X.mg X.base (L2.CX X.prog X.w) k f fd ps (spD (Cx.wd X cl).un (n0 + 1) den)) (hr : Room (k + 1) X.A) (tk : Takes X Wo) (hg : Gl X x) (hm : X.mg x = some (.ref C)) (hb : KB X.K fd ps [] (n0 + 1) 0 (0 :: p))
    (ha : HC X cl Wo (a :: es) n0 g) (hdb : (x == ("__debug__" : Str)) = false := by decide) (he : starEach (a :: es) X.env = (false, eval a X.env) :: starEach es X.env := by rfl) (hpl : (backTo pos (starEach es X.env)).any (·.1) = false := by rfl) :
    HE X cl Wo (.Call (.Name x np) (a :: es) [] pos) (dMake c den p g) := by
  refine ⟨fun pins s σ H Q I h => ?_⟩
  refine wpAny_Call_Name_kw (ld_glob I hg hm ?_ hdb)
  refine PySem.W.callWith_K (h₀ := X.base) I.ok.mod.kin M.kp (thn (ha.run.run pos pins s σ H _ I (rdMake hC hb.pm ha.len h)) fun us s1 ⟨vs, H1, I1, r, hn, q⟩ => ⟨I1.kIn, ?_⟩) he hpl
  refine run_mk (gV := fun y => ord (0 :: p) (y :: vs)) (gU := fun y => ord (0 :: p) (y :: us)) M Fn hr (fun s y hk => ?_) (fun y u ry => vals_ord (.cons ry r) _) (pass_own tk σ) I1 q
  have := hb.to s (y :: us) [] hk (by rw [List.length_cons, ← r.length, hn]) rfl
  rw [List.append_nil] at this
  exact this
/-- C(k = v, ..) -/
theorem he_makeK0 (M : Mk X.K C f) (hC : cl.f c = some C) (Fn : FnOk X.prog X.w X.K X.mg X.base (L2.CX X.prog X.w) k f fd ps (spD (Cx.wd X cl).un (n1 + 1) den)) (hr : Room (k + 1) X.A) (tk : Takes X Wo) (hg : Gl X x) (hm : X.mg x = some (.ref C)) (hb : KB X.K fd ps ks 1 n1 (0 :: p))
    (hkw : HCK X cl Wo kws n1 g') (hall : (backToKw pos (keywordEach kws X.env)).all (·.1.isSome) = true := by rfl) (hks : (backToKw pos (keywordEach kws X.env)).filterMap (·.1) = ks := by rfl)
    (hdb : (x == ("__debug__" : Str)) = false := by decide) (hpl : ((backTo pos (starEach [] X.env)).any (·.1) || (backToKw pos (keywordEach kws X.env)).any (·.1.isNone)) = false := by rfl) :
    HE X cl Wo (.Call (.Name x np) [] kws pos) (dMake c den p g') := by
  refine ⟨fun pins s σ H Q I h => ?_⟩
  refine wpAny_Call_Name_kw (ld_glob I hg hm ?_ hdb)
  have pm : (0 :: p).Perm (List.range (n1 + 1)) := by have := hb.pm; rw [Nat.add_comm] at this; exact this
  refine PySem.W.callWith_KW0 (h₀ := X.base) I.ok.mod.kin M.kp hall (thn (hkw.run.run pos pins s σ H _ I (rdMake hC pm hkw.len h)) fun ws s2 ⟨zs, H2, I2, rz, hn, q2⟩ => ⟨I2.kIn, ?_⟩) hpl
  rw [hks]
  exact run_mk (gV := fun y => ord (0 :: p) (y :: zs)) (gU := fun y => ord (0 :: p) (y :: ws)) M Fn hr (fun s y hk => hb.to s [y] ws hk rfl (by rw [← rz.length, hn])) (fun y u ry => vals_ord (.cons ry rz) _) (pass_own tk σ) I2 q2
end
end
end MX

/-! MY0: methods called, isinstance of own classes. -/
namespace MX
open PySem L2
/-- the class of an instance without a field of this name -/
def clsO (m : Str) : O → Option String
  | .d (.obj c ns _) => if m ∈ ns then none else some c
  | .obj c ns _ => if m ∈ ns then none else some c
  | _ => none
def mthR (e1 : En) (as : List Ag) (r : RF) : Rs O := match r with
  | .ok o ps => match wb e1 as ps with
    | some e2 => .ok o e2
    | none => .bad
  | .exc c pl ps => match wb e1 as ps with
    | some e2 => .exc c pl e2
    | none => .bad
  | .bad => .bad
/-- o.m(..): den by the class of o -/
def dMth (m : Str) (tab : String → Option Den) (p : List Nat) (g0 : En → Rs Ag) (g : En → Rs (List Ag)) : En → Rs O := fun e => (g0 e).bind fun a e0 => match clsO m a.1 with
  | none => .bad
  | some c => match tab c with
    | none => .bad
    | some den => (g e0).bind fun as e1 => mthR e1 (ord p (a :: as)) (den ((ord p (a :: as)).map (·.1)))
section
variable {X : Cx} {cl : Cl} {Wo : WX} {pos : Pos}
variable {W : Wd} {Z F Z' F' : Addr → Prop} {P P' : Nat → V} {e : En} {T : Ts} {σ : L2.St} {H H' : Hp} {Q : VK}
theorem lookup_none {ns : List Str} {m : Str} : ∀ {fs : List (Str × V)}, fs.map (·.1) = ns → m ∉ ns → fs.lookup m = none
  | [], _, _ => rfl
  | (g, v) :: fs, e, h => by
    subst e
    rw [List.map_cons, List.mem_cons, not_or] at h
    rw [List.lookup_cons, show (m == g) = false from beq_eq_false_iff_ne.mpr h.1]
    exact lookup_none rfl h.2
theorem clsO_ok {m : Str} {o : O} {c : String} {v : V} (h : clsO m o = some c) (s : See W H Z o v) : ∃ a C dx fs, v = .ref a ∧ W.cl c = some C ∧ H a = some (.ins C dx fs) ∧ fs.lookup m = none := by
  unfold clsO at h
  split at h
  · split at h
    · cases h
    · rename_i hm
      cases h
      obtain ⟨a, C, dx, fs, ev, hz, hC, hH, hn, hr⟩ := s.d
      exact ⟨a, C, dx, fs, ev, hC, hH, lookup_none hn hm⟩
  · split at h
    · cases h
    · rename_i hm
      cases h
      obtain ⟨fp, a, C, dx, fs, fp', ev, hC, hH, hn, _, hr⟩ := s
      exact ⟨a, C, dx, fs, ev, hC, hH, lookup_none hn hm⟩
  · cases h
theorem rdMth {m : Str} {tab : String → Option Den} {p : List Nat} {n : Nat} {g0 : En → Rs Ag} {g : En → Rs (List Ag)} (hp : p.Perm (List.range (n + 1))) (hn : LenIs n g) (h : rdE W Wo (dMth m tab p g0 g) σ H Q) :
    rdGa W Wo g0 σ H fun v H1 => ∃ c C a dx fs den, v = .ref a ∧ W.cl c = some C ∧ H1 a = some (.ins C dx fs) ∧ fs.lookup m = none ∧ tab c = some den ∧
      rdC W Wo g σ H1 fun vs H2 => vs.length = n ∧ spD W.un (n + 1) den (ord p (v :: vs)) H2 Q (fun c d H => Wo c d σ H) := by
  obtain ⟨Z, F, P, e, T, r0, k⟩ := h
  refine ⟨Z, F, P, e, T, r0, ?_⟩
  unfold dMth at k
  cases q0 : g0 e with
  | bad => rw [q0] at k; exact k
  | exc c ps e1 => rw [q0] at k; exact k
  | ok a0 e0 =>
    rw [q0] at k
    simp only [Rs.bind_ok] at k
    intro v Z0 F0 H0 s0 r00 l0
    cases qc : clsO m a0.1 with
    | none => rw [qc] at k; exact k.elim
    | some c =>
      rw [qc] at k
      simp only at k
      cases qt : tab c with
      | none => rw [qt] at k; exact k.elim
      | some den =>
        rw [qt] at k
        simp only at k
        obtain ⟨f, hf, _⟩ := r00.top
        obtain ⟨a, C, dx, fs, ev, hC, hH, hl⟩ := clsO_ok qc ⟨f, hf⟩
        refine ⟨c, C, a, dx, fs, den, ev, hC, hH, hl, qt, Z0, F0, P, e0, (a0.1, v) :: T, r00, ?_⟩
        cases qa : g e0 with
        | bad => rw [qa] at k; exact k
        | exc c2 ps e1 => rw [qa] at k; exact XOk.popped (XOk.step s0 k)
        | ok as e1 =>
          rw [qa] at k
          simp only [Rs.bind_ok] at k
          intro vs Z1 F1 H1 hl s1 r1 l1
          have han : as.length = n := hn e0 as e1 qa
          have hvn : vs.length = n := by rw [← hl, han]
          refine ⟨hvn, ?_⟩
          have hl3 : (a0 :: as).length = (v :: vs).length := by rw [List.length_cons, List.length_cons, hl]
          have r1' : RS W Z1 F1 P e1 (((a0 :: as).map (·.1)).zip (v :: vs) ++ T) σ H1 := r1.perm List.perm_middle
          have r2 : RS W Z1 F1 P e1 (((ord p (a0 :: as)).map (·.1)).zip (ord p (v :: vs)) ++ T) σ H1 := by
            refine r1'.perm (List.Perm.append_right _ ?_)
            rw [← ord_map, ← ord_zip (by rw [List.length_map, hl3])]
            refine (ord_perm ?_).symm
            rw [List.length_zip, List.length_map, hl3, Nat.min_self, List.length_cons, hvn]
            exact hp
          have hlo : (ord p (a0 :: as)).length = (ord p (v :: vs)).length := ord_len hl3
          have hon : (ord p (v :: vs)).length = n + 1 := by
            have := (ord_perm (p := p) (l := v :: vs) (by rw [List.length_cons, hvn]; exact hp)).length_eq
            rw [this, List.length_cons, hvn]
          have l2 : lends σ (ord p (a0 :: as)) (ord p (v :: vs)) := lends_ord hl3 (lends_cons l0 l1)
          obtain ⟨Fc, rc, back⟩ := r2.frame P
          refine ⟨Z1, Fc, P, (ord p (a0 :: as)).map (·.1), rc, by rw [List.length_map, hlo], hon, ?_⟩
          cases qd : den ((ord p (a0 :: as)).map (·.1)) with
          | bad => rw [qd] at k; exact k.elim
          | ok o ps =>
            rw [qd] at k
            simp only [mthR] at k
            intro w Z2 F2 H2 P2 s2 r3
            cases qw : wb e1 (ord p (a0 :: as)) ps with
            | none => rw [qw] at k; exact k.elim
            | some e2 =>
              rw [qw] at k
              obtain ⟨F3, s3, r4⟩ := back Z2 F2 H2 _ P2 s2 r3
              have r5 : RS W Z2 F3 P e1 (livs ps (ord p (v :: vs)) ++ ((o, w) :: T)) σ H2 := r4.perm List.perm_middle.symm
              exact k w Z2 F3 H2 (s0.trans (s1.trans s3)) (r5.wb hlo l2 qw)
          | exc c2 pl ps =>
            rw [qd] at k
            simp only [mthR] at k
            intro Z2 F2 H2 P2 C2 dd hc py s2 r3
            cases qw : wb e1 (ord p (a0 :: as)) ps with
            | none => rw [qw] at k; exact k.elim
            | some e2 =>
              rw [qw] at k
              obtain ⟨F3, s3, r4⟩ := back Z2 F2 H2 _ P2 s2 r3
              exact k Z2 F3 H2 C2 dd hc (Pay.wx (W := W.un) (W' := W) ⟨rfl, rfl⟩ py) (s0.trans (s1.trans s3)) (r4.wb hlo l2 qw)
/-- what a method's table needs -/
structure MthT (X : Cx) (cl : Cl) (m : Str) (tab : String → Option Den) (ks : List Str) (n0 n1 : Nat) (p : List Nat) : Prop where
  ok : ∀ c den C, tab c = some den → cl.f c = some C → ∃ (f : Addr) (fd : FuncData) (ps : List Str) (k : Nat), Cls X.K C ∧ Meth X.K C m f ∧ FnOk X.prog X.w X.K X.mg X.base (L2.CX X.prog X.w) k f fd ps (spD (Cx.wd X cl).un (n0 + n1 + 1) den) ∧ Room k X.A ∧ KB X.K fd ps ks (n0 + 1) n1 p
section
variable {m : Str} {tab : String → Option Den} {n0 n1 : Nat} {p : List Nat} {o a : Expr} {ks : List Str} {es : List Expr} {kws : List Keyword} {g0 : En → Rs Ag} {g g' : En → Rs (List Ag)} {apos : Pos}
theorem KB.perm1 {K : PySem.W.Frag} {fd : FuncData} {ps ks : List Str} (b : KB K fd ps ks (n0 + 1) n1 p) : p.Perm (List.range (n0 + n1 + 1)) := by
  have := b.pm
  rw [show n0 + 1 + n1 = n0 + n1 + 1 by omega] at this
  exact this
/-- o.m(..) -/
theorem he_mth (hp : p.Perm (List.range (n0 + 1))) (M : MthT X cl m tab [] n0 0 p) (tk : Takes X Wo) (ho : HGa X cl Wo o g0) (ha : HC X cl Wo (a :: es) n0 g)
    (hst : starEach (a :: es) X.env = (false, eval a X.env) :: starEach es X.env := by rfl) (hpl : (backTo pos (starEach es X.env)).any (·.1) = false := by rfl)
    {pl : Sem Bool} (ht : eval (.Call (.Attribute o m apos) (a :: es) [] pos) X.env = (do
      let ov ← eval o X.env
      standAt apos.atName
      let (f, first) ← holding [ov] (getMethod ov m pl)
      callWith pos f first (backTo pos (starEach (a :: es) X.env)) (backToKw pos (keywordEach [] X.env))) := by rfl) :
    HE X cl Wo (.Call (.Attribute o m apos) (a :: es) [] pos) (dMth m tab p g0 g) := by
  refine ⟨fun pins s σ H Q I h => ?_⟩
  refine PySem.W.methodCall_KW (pl := pl) (thn (ho.run pins s σ H _ I (rdMth hp ha.len h)) fun u s1 ⟨x, H1, I1, rx, c, C, ad, dx, fs, den, ex, hC, ea, l, htab, q⟩ => ?_) ht
  subst ex
  obtain rfl : u = Value.ref ad := rx
  obtain ⟨f, fd, ps, k, hcl, hm, Fn, hr, hb⟩ := M.ok c den C htab hC
  refine getmeth_ok I1 ea hcl hm l ?_
  refine PySem.W.callWith_K (first := [.ref ad]) (h₀ := X.base) I.ok.mod.kin hm.kp (thn (ha.run.run pos pins s1 σ H1 _ I1 q) fun us s2 ⟨vs, H2, I2, r, hn, q2⟩ => ⟨I2.kIn, ?_⟩) hst hpl
  refine run_own (us := .ref ad :: us) (us' := ord p (.ref ad :: us)) Fn hr ?_ (vals_ord (.cons (show RelV (V.ref ad) (Value.ref ad) from rfl) r) p) (pass_own tk σ) I2 q2
  have := hb.to s2 (.ref ad :: us) [] I2.kIn (by rw [List.length_cons, ← r.length, hn]) rfl
  rw [List.append_nil] at this
  exact this
/-- o.m() -/
theorem he_mth0 (hp : p.Perm (List.range 1)) (M : MthT X cl m tab [] 0 0 p) (tk : Takes X Wo) (ho : HGa X cl Wo o g0)
    {pl : Sem Bool} (ht : eval (.Call (.Attribute o m apos) [] [] pos) X.env = (do
      let ov ← eval o X.env
      standAt apos.atName
      let (f, first) ← holding [ov] (getMethod ov m pl)
      callWith pos f first (backTo pos (starEach [] X.env)) (backToKw pos (keywordEach [] X.env))) := by rfl) :
    HE X cl Wo (.Call (.Attribute o m apos) [] [] pos) (dMth m tab p g0 cNil) := by
  refine ⟨fun pins s σ H Q I h => ?_⟩
  refine PySem.W.methodCall_KW (pl := pl) (thn (ho.run pins s σ H _ I (rdMth (n := 0) hp len_nil h)) fun u s1 ⟨x, H1, I1, rx, c, C, ad, dx, fs, den, ex, hC, ea, l, htab, q⟩ => ?_) ht
  subst ex
  obtain rfl : u = Value.ref ad := rx
  obtain ⟨f, fd, ps, k, hcl, hm, Fn, hr, hb⟩ := M.ok c den C htab hC
  refine getmeth_ok I1 ea hcl hm l ?_
  obtain ⟨_, q2⟩ := rdC_nil q
  exact PySem.W.callWith_K0 (first := [.ref ad]) I1.kIn hm.kp (run_own (us := [.ref ad]) (us' := ord p [.ref ad]) Fn hr (hb.to s1 [.ref ad] [] I1.kIn rfl rfl) (vals_ord (.cons (show RelV (V.ref ad) (Value.ref ad) from rfl) .nil) p) (pass_own tk σ) I1 q2)
/-- o.m(k = e, ..) -/
theorem he_mthK0 (hp : p.Perm (List.range (n1 + 1))) (M : MthT X cl m tab ks 0 n1 p) (tk : Takes X Wo) (ho : HGa X cl Wo o g0) (hkw : HCK X cl Wo kws n1 g')
    (hall : (backToKw pos (keywordEach kws X.env)).all (·.1.isSome) = true := by rfl) (hks : (backToKw pos (keywordEach kws X.env)).filterMap (·.1) = ks := by rfl)
    (hpl : ((backTo pos (starEach [] X.env)).any (·.1) || (backToKw pos (keywordEach kws X.env)).any (·.1.isNone)) = false := by rfl)
    {pl : Sem Bool} (ht : eval (.Call (.Attribute o m apos) [] kws pos) X.env = (do
      let ov ← eval o X.env
      standAt apos.atName
      let (f, first) ← holding [ov] (getMethod ov m pl)
      callWith pos f first (backTo pos (starEach [] X.env)) (backToKw pos (keywordEach kws X.env))) := by rfl) :
    HE X cl Wo (.Call (.Attribute o m apos) [] kws pos) (dMth m tab p g0 g') := by
  refine ⟨fun pins s σ H Q I h => ?_⟩
  refine PySem.W.methodCall_KW (pl := pl) (thn (ho.run pins s σ H _ I (rdMth hp hkw.len h)) fun u s1 ⟨x, H1, I1, rx, c, C, ad, dx, fs, den, ex, hC, ea, l, htab, q⟩ => ?_) ht
  subst ex
  obtain rfl : u = Value.ref ad := rx
  obtain ⟨f, fd, ps, k, hcl, hm, Fn, hr, hb⟩ := M.ok c den C htab hC
  refine getmeth_ok I1 ea hcl hm l ?_
  rw [Nat.zero_add] at Fn
  refine PySem.W.callWith_KW0 (first := [.ref ad]) (h₀ := X.base) I.ok.mod.kin hm.kp hall (thn (hkw.run.run pos pins s1 σ H1 _ I1 q) fun ws s2 ⟨zs, H2, I2, rz, hn, q2⟩ => ⟨I2.kIn, ?_⟩) hpl
  rw [hks]
  exact run_own (us := [.ref ad]) (us' := ord p (.ref ad :: ws)) Fn hr (hb.to s2 [.ref ad] ws I2.kIn rfl (by rw [← rz.length, hn])) (vals_ord (.cons (show RelV (V.ref ad) (Value.ref ad) from rfl) rz) p) (pass_own tk σ) I2 q2
end
end
end MX

/-! MY1: dict comprehensions, all(..) over a list of bools, isinstance of own classes, a class as a value. -/
namespace MX
open PySem L2
def dcL (vs : List Nat) (t : Tg) (c : En → Rs Bool) (kx el : En → Rs O) : List D → List Key → List O → En → Rs O
  | [], ks, xs, e => .ok (.dic ks xs) e
  | d :: ds, ks, xs, e => match t (.d d) e with
    | none => .bad
    | some e1 => match c e1 with
      | .ok true e2 => match kx e2 with
        | .ok ko e3 => match keyO ko with
          | none => .bad
          | some k => match el e3 with
            | .ok o e4 => if ks.length < sizeLine then dcL vs t c kx el ds (putKs ks xs k o).1 (putKs ks xs k o).2 (wipeE e4 vs) else .bad
            | _ => .bad
        | _ => .bad
      | .ok false e2 => dcL vs t c kx el ds ks xs (wipeE e2 vs)
      | _ => .bad
def dDc (it : En → Rs (List D)) (vs : List Nat) (t : Tg) (c : En → Rs Bool) (kx el : En → Rs O) : En → Rs O := fun e => (it e).bind fun ds e1 => dcL vs t c kx el ds [] [] (wipeE e1 vs)
section
variable {X : Cx} {cl : Cl} {Wo : WX} {pos : Pos}
variable {W : Wd} {Z F Z' F' : Addr → Prop} {P P' : Nat → V} {e : En} {T : Ts} {σ : L2.St} {H H' : Hp} {Q : VK}
theorem rdDc {it : En → Rs (List D)} {vs : List Nat} {t : Tg} {c : En → Rs Bool} {kx el : En → Rs O} (h : rdE W Wo (dDc it vs t c kx el) σ H Q) :
    tDc (rdI W Wo it) (rdG W vs t) (rdT W Wf c) (rdE W Wf kx) (rdE W Wf el) vs σ H Q := by
  obtain ⟨Z, F, P, e, T, r0, k⟩ := h
  refine ⟨Z, F, P, e, T, r0, ?_⟩
  unfold dDc at k
  cases qi : it e with
  | bad => rw [qi] at k; exact k
  | exc c ps e1 => rw [qi] at k; exact k
  | ok ds e1 =>
    rw [qi] at k
    simp only [Rs.bind_ok] at k
    intro Z1 F1 H1 J T2 s1 r1 hJ D hD
    have hlen : σ.length = e1.length := r1.elen
    have r2 : RS W Z1 (fun a => F1 a ∨ a = D) P e1 (T2 ++ ((.dic [] [], .ref D) :: T)) σ (upd H1 D (.dK [])) := by
      have := r1.newDic hD
      exact this.perm List.perm_middle.symm
    refine ⟨fun i m H => i + m = ds.length ∧ ∃ Z F e ka acc, e.length = σ.length ∧ wipeE e vs = e ∧ RS W Z F P e (T2 ++ ((.dic ka acc, .ref D) :: T)) (L2.wipe σ vs) H ∧ PostE W Wo Z F P T σ H Q (dcL vs t c kx el (ds.drop i) ka acc e), ⟨ds.length, Nat.zero_add _, Z1, _, wipeE e1 vs, [], [], by rw [wipeE_len, hlen], wipeE_idem, r2.wipe vs, ?_⟩, ?_⟩
    · have s2 : Stp Z F H Z1 (fun a => F1 a ∨ a = D) (upd H1 D (.dK [])) := s1.trans (Stp.allocF hD)
      cases q : dcL vs t c kx el ds [] [] (wipeE e1 vs) with
      | bad => rw [q] at k; exact k.elim
      | exc c ps e' => rw [List.drop_zero, q]; rw [q] at k; exact XOk.step s2 k
      | ok o e' => rw [List.drop_zero, q]; rw [q] at k; exact fun v Z' F' H' s3 r3 => k v Z' F' H' (s2.trans s3) r3
    · rintro i m H ⟨him, Z, F, e, ka, acc, hel, hwe, r, k⟩
      obtain ⟨hgo, hstop⟩ := hJ i Z F P e ((.dic ka acc, .ref D) :: T) (L2.wipe σ vs) H r
      by_cases hi : i < ds.length
      · right
        have hd : ds[i]? = some ds[i] := List.getElem?_eq_getElem hi
        rw [List.drop_eq_getElem_cons hi] at k
        unfold dcL at k
        refine ⟨(hgo _ hd).1, fun H' => i + 1 + (m - 1) = ds.length ∧ ∃ Z F e ka acc, e.length = σ.length ∧ wipeE e vs = e ∧ RS W Z F P e (T2 ++ ((.dic ka acc, .ref D) :: T)) (L2.wipe σ vs) H' ∧ PostE W Wo Z F P T σ H' Q (dcL vs t c kx el (ds.drop (i + 1)) ka acc e), fun H' h => ⟨m - 1, by omega, h⟩, fun x H' hy => ?_⟩
        obtain ⟨Z2, F2, s2, r2⟩ := (hgo _ hd).2 x H' hy
        refine ⟨Z2, F2, P, e, T2 ++ ((.dic ka acc, .ref D) :: T), .d ds[i], r2, ?_⟩
        cases qt : t (.d ds[i]) e with
        | none => rw [qt] at k; exact k.elim
        | some e2 =>
          rw [qt] at k
          simp only at k ⊢
          intro σ3 Z3 F3 H3 k3 s3 r3
          have hw : L2.wipe σ3 vs = L2.wipe σ vs := (wipe_kps k3).trans (by
            have : ∀ us : List Nat, (∀ u ∈ us, u ∈ vs) → L2.wipe (L2.wipe σ vs) us = L2.wipe σ vs := by
              intro us
              induction us with
              | nil => exact fun _ => rfl
              | cons u us ih =>
                intro hu
                rw [show L2.wipe (L2.wipe σ vs) (u :: us) = (L2.wipe (L2.wipe σ vs) us).set u none from rfl, ih fun w hw => hu w (List.mem_cons_of_mem _ hw)]
                have key : ∀ (ws : List Nat), u ∈ ws → (L2.wipe σ ws).set u none = L2.wipe σ ws := by
                  intro ws
                  induction ws with
                  | nil => exact fun h => nomatch h
                  | cons w ws ih2 =>
                    intro h
                    rw [show L2.wipe σ (w :: ws) = (L2.wipe σ ws).set w none from rfl]
                    by_cases q : w = u
                    · rw [q, List.set_set]
                    · rcases List.mem_cons.mp h with z | z
                      · exact absurd z.symm q
                      · rw [List.set_comm _ _ q, ih2 z]
                exact key vs (hu u List.mem_cons_self)
            exact this vs fun u h => h)
          have hσ3 : σ3.length = σ.length := by rw [k3.1, wipe_length]
          refine ⟨hw, Z3, F3, P, e2, T2 ++ ((.dic ka acc, .ref D) :: T), r3, ?_⟩
          cases qc : c e2 with
          | bad => rw [qc] at k; exact k.elim
          | exc c ps e' => rw [qc] at k; exact k.elim
          | ok b e3 =>
            rw [qc] at k
            intro Z4 F4 H4 s4 r4
            cases b with
            | false =>
              refine iteF ?_
              simp only at k
              refine ⟨by omega, Z4, F4, wipeE e3 vs, ka, acc, by rw [wipeE_len, ← r4.elen, hσ3], wipeE_idem, ?_, ?_⟩
              · rw [← hw]; exact r4.wipe vs
              · have s5 := (s2.trans s3).trans s4
                cases q : dcL vs t c kx el (ds.drop (i + 1)) ka acc (wipeE e3 vs) with
                | bad => rw [q] at k; exact k.elim
                | exc c ps e' => rw [q] at k; exact XOk.step s5 k
                | ok o e' => rw [q] at k; exact fun v Z' F' H' s3 r3 => k v Z' F' H' (s5.trans s3) r3
            | true =>
              refine iteT ⟨Z4, F4, P, e3, T2 ++ ((.dic ka acc, .ref D) :: T), r4, ?_⟩
              simp only at k
              cases qk : kx e3 with
              | bad => rw [qk] at k; exact k.elim
              | exc c ps e' => rw [qk] at k; exact k.elim
              | ok ko e3' =>
                rw [qk] at k
                simp only at k
                intro yk Zk Fk Hk sk rk
                cases gk : keyO ko with
                | none => rw [gk] at k; exact k.elim
                | some kk =>
                  rw [gk] at k
                  simp only at k
                  obtain ⟨fk, hfk, _⟩ := rk.top
                  have eyk : yk = kV kk := See.key ⟨fk, hfk⟩ gk
                  refine ⟨Zk, Fk, P, e3', T2 ++ ((.dic ka acc, .ref D) :: T), rk.pop, ?_⟩
                  cases qe : el e3' with
                  | bad => rw [qe] at k; exact k.elim
                  | exc c ps e' => rw [qe] at k; exact k.elim
                  | ok o e4 =>
                    rw [qe] at k
                    simp only at k
                    intro y Z5 F5 H5 s5 r5
                    split at k
                    · rename_i hz
                      have r6 : RS W Z5 F5 P e4 ((.dic ka acc, .ref D) :: (o, y) :: (T2 ++ T)) σ3 H5 := r5.perm (((List.Perm.cons _ List.perm_middle)).trans (List.Perm.swap _ _ _))
                      obtain ⟨kvs, hh, ek, s6, r7⟩ := r6.dput (k := kk)
                      refine ⟨kvs, kk, eyk, hh, by rw [← ek, List.length_map] at hz; exact hz, by omega, Z5, F5, wipeE e4 vs, (putKs ka acc kk o).1, (putKs ka acc kk o).2, by rw [wipeE_len, ← r5.elen, hσ3], wipeE_idem, ?_, ?_⟩
                      · rw [← hw]
                        exact (r7.perm (T' := T2 ++ ((.dic (putKs ka acc kk o).1 (putKs ka acc kk o).2, .ref D) :: T)) List.perm_middle.symm).wipe vs
                      · have s7 := ((((s2.trans s3).trans s4).trans sk).trans s5).trans s6
                        cases q : dcL vs t c kx el (ds.drop (i + 1)) (putKs ka acc kk o).1 (putKs ka acc kk o).2 (wipeE e4 vs) with
                        | bad => rw [q] at k; exact k.elim
                        | exc c ps e' => rw [q] at k; exact XOk.step s7 k
                        | ok o e' => rw [q] at k; exact fun v Z' F' H' s3 r3 => k v Z' F' H' (s7.trans s3) r3
                    · exact k.elim
      · left
        have hge : ds.length ≤ i := Nat.le_of_not_lt hi
        rw [List.drop_of_length_le hge] at k
        refine ⟨hstop (by omega), k (.ref D) Z F H .refl ?_⟩
        have r1 := r.appPop
        rw [← hwe] at r1 ⊢
        exact r1.unwipe hel.symm
theorem he_dc {kx elt tg iter : Expr} {ifs : List Expr} {scope : Scope} {own : List (Str × Nat)} {di} {t : Tg} {dc} {dk de}
    (h : PE X (.DictComp kx elt [⟨tg, iter, ifs, 0⟩] scope pos) (tDc (rdI (Cx.wd X cl) Wo di) (rdG (Cx.wd X cl) (own.map (·.2)) t) (rdT (Cx.wd X cl) Wf dc) (rdE (Cx.wd X cl) Wf dk) (rdE (Cx.wd X cl) Wf de) (own.map (·.2)))) :
    HE X cl Wo (.DictComp kx elt [⟨tg, iter, ifs, 0⟩] scope pos) (dDc di (own.map (·.2)) t dc dk de) := PE.imp h fun σ H Q h => rdDc h
/-- a class as a value -/
theorem he_cls {n : String} {C : Addr} {x : Str} (hC : cl.f n = some C) (hg : Gl X x) (hm : X.mg x = some (.ref C)) (hdb : (x == ("__debug__" : Str)) = false := by decide) : HE X cl Wo (.Name x pos) (dC (.cls n)) :=
  he_C (v := .ref C) (pe_glob hg hm rfl hdb) fun H Z => ⟨C, hC, rfl⟩
end
end MX

/-! MY2: isinstance(o, C) of own classes; all(bools). -/
namespace MX
open PySem L2
def clsOf : O → Option String
  | .d (.obj c _ _) => some c
  | .obj c _ _ => some c
  | _ => none
def fIsC (sub : String → String → Option Bool) (a b : O) : Option O := match clsOf a, b with
  | some c, .d (.cls n) => (sub c n).map fun r => .d (.bl r)
  | _, _ => none
/-- what the classes' table needs -/
structure IsC (K : PySem.W.Frag) (cl : String → Option Addr) (sub : String → String → Option Bool) : Prop where
  kit : ∀ c n r C D, sub c n = some r → cl c = some C → cl n = some D → PySem.W.kitOne K (.ref C) (.ref D) = some r
  cls : ∀ c n r C, sub c n = some r → cl c = some C → Cls K C ∧ PySem.W.findIn K (.ref C) "__class__" = some (some (.builtin "object.__class__")) ∧ PySem.W.mroIn K C (.type "object") = some true
  hn : PySem.W.specialIn K (.builtin "object.__class__") "__get__" = some (some (.builtin "getset_descriptor.__get__"))
  ht : PySem.W.takesIn K (.builtin "object.__class__") = some true
def boolsD : List D → Option (List Bool)
  | [] => some []
  | .bl b :: ds => (boolsD ds).map (b :: ·)
  | _ :: _ => none
def fAll (o : O) : Option O := o.ls.bind fun ds => (boolsD ds).map fun bs => .d (.bl (bs.all id))
def fAny (o : O) : Option O := o.ls.bind fun ds => (boolsD ds).map fun bs => .d (.bl (bs.any id))
section
variable {W : Wd} {Z F Z' F' : Addr → Prop} {P P' : Nat → V} {e : En} {T : Ts} {σ : L2.St} {H H' : Hp} {Q : VK}
theorem clsOf_ok {o : O} {c : String} {v : V} (h : clsOf o = some c) (s : See W H Z o v) : ∃ a C dx fs, v = .ref a ∧ W.cl c = some C ∧ H a = some (.ins C dx fs) := by
  unfold clsOf at h
  split at h
  · cases h
    obtain ⟨a, C, dx, fs, ev, hz, hC, hH, hn, hr⟩ := s.d
    exact ⟨a, C, dx, fs, ev, hC, hH⟩
  · cases h
    obtain ⟨fp, a, C, dx, fs, fp', ev, hC, hH, hn, _, hr⟩ := s
    exact ⟨a, C, dx, fs, ev, hC, hH⟩
  · cases h
theorem cIsC {sub : String → String → Option Bool} (hs : IsC W.K W.cl sub) : CallOk W (on2 (fIsC sub)) (rIsi W.K) := by
  intro Z F P e T σ H os z vs Q hf ss rs k
  obtain ⟨o, p, rfl, hg⟩ := on2_some hf
  clear hf
  obtain ⟨v, u, rfl, s, s'⟩ := ss.two
  unfold fIsC at hg
  split at hg
  · rename_i c n hc
    cases q : sub c n with
    | none => rw [q] at hg; cases hg
    | some r =>
      rw [q] at hg; cases hg
      obtain ⟨a, C, dx, fs, ev, hC, hH⟩ := clsOf_ok hc s
      obtain ⟨D, hD, eu⟩ := s'.d
      subst eu ev
      obtain ⟨c1, c2, c3⟩ := hs.cls c n r C q hC
      exact ⟨.ref a, .ref D, .ref C, .ref D, r, rfl, .own D, .base (.ins hH c1 c2 hs.hn hs.ht c3), hs.kit c n r C D q hC hD, done_leaf (x := .bl r) rs (fun _ _ => rfl) k⟩
  · cases hg
theorem boolsD_rds : ∀ {ds : List D} {vs : List V} {bs : List Bool}, boolsD ds = some bs → RDs W H Z ds vs → vs = bs.map V.bl
  | [], vs, bs, h, r => by cases h; exact r
  | d :: ds, vs, bs, h, ⟨v, r, ev, h1, h2⟩ => by
    cases d with
    | bl b =>
      unfold boolsD at h
      cases q : boolsD ds with
      | none => rw [q] at h; cases h
      | some cs =>
        rw [q] at h; cases h
        rw [ev, show v = .bl b from h1, boolsD_rds q h2]; rfl
    | _ => cases h
theorem cAll : CallOk W (on1 fAll) (rAll W.K) := by
  intro Z F P e T σ H os z vs Q hf ss rs k
  obtain ⟨o, rfl, hg⟩ := on1_some hf
  clear hf
  obtain ⟨v, rfl, s⟩ := ss.one
  unfold fAll at hg
  cases q : o.ls with
  | none => rw [q] at hg; cases hg
  | some ds =>
    rw [q] at hg
    simp only [Option.bind_some] at hg
    cases q2 : boolsD ds with
    | none => rw [q2] at hg; cases hg
    | some bs =>
      rw [q2] at hg; cases hg
      obtain ⟨a, us, e, h1, r⟩ := s.list q
      rw [boolsD_rds q2 r] at h1
      exact ⟨a, bs, by rw [e], h1, done_leaf (x := .bl (bs.all id)) rs (fun _ _ => rfl) k⟩
theorem cAny : CallOk W (on1 fAny) (rAny W.K) := by
  intro Z F P e T σ H os z vs Q hf ss rs k
  obtain ⟨o, rfl, hg⟩ := on1_some hf
  clear hf
  obtain ⟨v, rfl, s⟩ := ss.one
  unfold fAny at hg
  cases q : o.ls with
  | none => rw [q] at hg; cases hg
  | some ds =>
    rw [q] at hg
    simp only [Option.bind_some] at hg
    cases q2 : boolsD ds with
    | none => rw [q2] at hg; cases hg
    | some bs =>
      rw [q2] at hg; cases hg
      obtain ⟨a, us, e, h1, r⟩ := s.list q
      rw [boolsD_rds q2 r] at h1
      exact ⟨a, bs, by rw [e], h1, done_leaf (x := .bl (bs.any id)) rs (fun _ _ => rfl) k⟩
end
end MX

/-! MY3: a name as an argument whose slot a later argument still uses: it is lent behind them. -/
namespace MX
open PySem L2
def cLate (i : Nat) (r : En → Rs (List Ag)) : En → Rs (List Ag) := fun e => match slot e i with
  | none => .bad
  | some _ => (r e).bind fun as e1 => (gName i e1).bind fun a e2 => .ok (a :: as) e2
section
variable {X : Cx} {cl : Cl} {Wo : WX} {pos : Pos}
variable {W : Wd} {Z F Z' F' : Addr → Prop} {P P' : Nat → V} {e : En} {T : Ts} {σ : L2.St} {H H' : Hp}
theorem rdLate {i : Nat} {r : En → Rs (List Ag)} {Q : List V → Hp → Prop} (h : rdC W Wo (cLate i r) σ H Q) : ∃ v, σ[i]? = some (some v) ∧ rdC W Wo r σ H fun vs H1 => Q (v :: vs) H1 := by
  obtain ⟨Z, F, P, e, T, r0, k⟩ := h
  unfold cLate at k
  cases q0 : slot e i with
  | none => rw [q0] at k; exact k.elim
  | some o0 =>
    rw [q0] at k
    simp only at k
    obtain ⟨v, f, hv, _, _⟩ := slot_get r0 q0
    refine ⟨v, hv, Z, F, P, e, T, r0, ?_⟩
    cases qa : r e with
    | bad => rw [qa] at k; exact k
    | exc c ps e1 => rw [qa] at k; exact k
    | ok as e1 =>
      rw [qa] at k
      simp only [Rs.bind_ok] at k
      intro vs Z1 F1 H1 hl s1 r1 l1
      unfold gName at k
      cases q : slot e1 i with
      | none => rw [q] at k; exact k.elim
      | some o =>
        rw [q] at k
        obtain ⟨s, hs, hc⟩ := slot_some q
        cases o with
        | d x =>
          obtain ⟨v', f', hv', hr', _⟩ := slot_get r1 q
          rw [hv] at hv'
          cases hv'
          have r2 : RS W Z1 F1 P e1 (((.d x, none) : Ag).1 :: as.map (·.1) |>.zip (v :: vs) |> (· ++ T)) σ H1 := r1.push hr'.1
          exact k (v :: vs) Z1 F1 H1 (by rw [List.length_cons, List.length_cons, hl]) s1 r2 (lends_cons trivial l1)
        | _ =>
          obtain ⟨v', hv', r2⟩ := r1.lend hs hc
          rw [hv] at hv'
          cases hv'
          refine k (v :: vs) Z1 F1 H1 (by rw [List.length_cons, List.length_cons, hl]) s1 ?_ (lends_cons ⟨hv, trivial⟩ l1)
          unfold lentS
          rw [modS_eq hs]
          exact r2
theorem len_late {i : Nat} {r : En → Rs (List Ag)} {n : Nat} (h : LenIs n r) : LenIs (n + 1) (cLate i r) := fun e as e' q => by
  unfold cLate at q
  cases q0 : slot e i with
  | none => rw [q0] at q; cases q
  | some o0 =>
    rw [q0] at q
    simp only at q
    cases qa : r e with
    | bad => rw [qa] at q; cases q
    | exc c ps e1 => rw [qa] at q; cases q
    | ok bs e1 =>
      rw [qa] at q
      simp only [Rs.bind_ok] at q
      cases qb : gName i e1 with
      | bad => rw [qb] at q; cases q
      | exc c ps e1 => rw [qb] at q; cases q
      | ok a e2 =>
        rw [qb] at q
        cases q
        rw [List.length_cons, h e bs e1 qa]
theorem hc_late {i : Nat} {x : Str} {es : List Expr} {n : Nat} {r} (h : PE X (.Name x pos) (tVar i)) (hr : HC X cl Wo es n r) (hs : starEach (.Name x pos :: es) X.env = (false, eval (.Name x pos) X.env) :: starEach es X.env := by rfl) : HC X cl Wo (.Name x pos :: es) (n + 1) (cLate i r) :=
  ⟨PA.imp (pa_cons h hr.run hs) fun σ H Q h => rdLate h, len_late hr.len⟩
end
end MX

namespace K05
open PySem L2 MX
def topS (i : Nat) : Stmt := PySem.Challenge.pw_hushsheets_k05_power_groups.main.body.getD i (.Pass ⟨0, 0, 0, 0⟩)
abbrev s__law_box : Stmt := topS 12
abbrev sN__law_box : List Str := ["script", "at", "cell"]
theorem sc__law_box : FnScope sN__law_box ["script", "at"] (defScope s__law_box) := ⟨rfl, rfl, rfl, by decide +kernel, rfl, by decide +kernel, by decide +kernel⟩
abbrev s__law_mix : Stmt := topS 11
abbrev sN__law_mix : List Str := ["cell", "salt", "one"]
theorem sc__law_mix : FnScope sN__law_mix ["cell", "salt"] (defScope s__law_mix) := ⟨rfl, rfl, rfl, by decide +kernel, rfl, by decide +kernel, by decide +kernel⟩
abbrev s__law_draw : Stmt := topS 13
abbrev sN__law_draw : List Str := ["box", "many", "cell", "drawn"]
theorem sc__law_draw : FnScope sN__law_draw ["box", "many"] (defScope s__law_draw) := ⟨rfl, rfl, rfl, by decide +kernel, rfl, by decide +kernel, by decide +kernel⟩
abbrev s__law_is_prime : Stmt := topS 15
abbrev sN__law_is_prime : List Str := ["n", "k"]
theorem sc__law_is_prime : FnScope sN__law_is_prime ["n"] (defScope s__law_is_prime) := ⟨rfl, rfl, rfl, by decide +kernel, rfl, by decide +kernel, by decide +kernel⟩
abbrev s__law_prime : Stmt := topS 16
abbrev sN__law_prime : List Str := ["box", "low", "high", "at", "turn", "n"]
theorem sc__law_prime : FnScope sN__law_prime ["box", "low", "high"] (defScope s__law_prime) := ⟨rfl, rfl, rfl, by decide +kernel, rfl, by decide +kernel, by decide +kernel⟩
abbrev s__law_modulus : Stmt := topS 17
abbrev sN__law_modulus : List Str := ["box", "q", "many", "at", "turn", "p"]
theorem sc__law_modulus : FnScope sN__law_modulus ["box", "q"] (defScope s__law_modulus) := ⟨rfl, rfl, rfl, by decide +kernel, rfl, by decide +kernel, by decide +kernel⟩
abbrev s__law_alike : Stmt := topS 14
abbrev sN__law_alike : List Str := ["told", "due", "k"]
theorem sc__law_alike : FnScope sN__law_alike ["told", "due"] (defScope s__law_alike) := ⟨rfl, rfl, rfl, by decide +kernel, rfl, by decide +kernel, by decide +kernel⟩
abbrev s__law_to : Stmt := topS 18
abbrev sN__law_to : List Str := ["a", "n", "p", "total", "one", "left", "turn"]
theorem sc__law_to : FnScope sN__law_to ["a", "n", "p"] (defScope s__law_to) := ⟨rfl, rfl, rfl, by decide +kernel, rfl, by decide +kernel, by decide +kernel⟩
abbrev s__law_powers : Stmt := topS 19
abbrev sN__law_powers : List Str := ["p", "q", "base", "a", "row", "k"]
theorem sc__law_powers : FnScope sN__law_powers ["p", "q"] (defScope s__law_powers) := ⟨rfl, rfl, rfl, by decide +kernel, rfl, by decide +kernel, by decide +kernel⟩
abbrev s__law_members : Stmt := topS 20
abbrev sN__law_members : List Str := ["p", "q", "x"]
theorem sc__law_members : FnScope sN__law_members ["p", "q"] (defScope s__law_members) := ⟨rfl, rfl, rfl, by decide +kernel, rfl, by decide +kernel, by decide +kernel⟩
abbrev s_Group_power : Stmt := inClass (topS 7) 1
abbrev sN_Group_power : List Str := ["self", "element", "exponent"]
theorem sc_Group_power : FnScope sN_Group_power ["self", "element", "exponent"] (defScope s_Group_power) := ⟨rfl, rfl, rfl, by decide +kernel, rfl, by decide +kernel, by decide +kernel⟩
abbrev s_Group_inverse_of : Stmt := inClass (topS 7) 2
abbrev sN_Group_inverse_of : List Str := ["self", "element"]
theorem sc_Group_inverse_of : FnScope sN_Group_inverse_of ["self", "element"] (defScope s_Group_inverse_of) := ⟨rfl, rfl, rfl, by decide +kernel, rfl, by decide +kernel, by decide +kernel⟩
abbrev s_Group_has : Stmt := inClass (topS 7) 5
abbrev sN_Group_has : List Str := ["self", "value"]
theorem sc_Group_has : FnScope sN_Group_has ["self", "value"] (defScope s_Group_has) := ⟨rfl, rfl, rfl, by decide +kernel, rfl, by decide +kernel, by decide +kernel⟩
abbrev s_is_prime : Stmt := topS 5
abbrev sN_is_prime : List Str := ["n", "divisor"]
theorem sc_is_prime : FnScope sN_is_prime ["n"] (defScope s_is_prime) := ⟨rfl, rfl, rfl, by decide +kernel, rfl, by decide +kernel, by decide +kernel⟩
abbrev s__member_of_order : Stmt := topS 9
abbrev sN__member_of_order : List Str := ["modulus", "order", "step", "start", "_"]
theorem sc__member_of_order : FnScope sN__member_of_order ["modulus", "order"] (defScope s__member_of_order) := ⟨rfl, rfl, rfl, by decide +kernel, rfl, by decide +kernel, by decide +kernel⟩
abbrev s_Group___init__ : Stmt := inClass (topS 7) 0
abbrev sN_Group___init__ : List Str := ["self", "powers", "exponent", "member"]
theorem sc_Group___init__ : FnScope sN_Group___init__ ["self", "powers"] (defScope s_Group___init__) := ⟨rfl, rfl, rfl, by decide +kernel, rfl, by decide +kernel, by decide +kernel⟩
abbrev s_PowerGroup___init__ : Stmt := inClass (topS 8) 0
abbrev sN_PowerGroup___init__ : List Str := ["self", "modulus", "order", "__class__", "step", "powers"]
theorem sc_PowerGroup___init__ : NdefX.NScope sN_PowerGroup___init__ ["self", "modulus", "order"] ["__class__"] (defScope s_PowerGroup___init__) := NdefX.nscope_by (by decide +kernel)
abbrev s_PowerGroup_multiply : Stmt := inClass (topS 8) 1
abbrev sN_PowerGroup_multiply : List Str := ["self", "first", "second"]
theorem sc_PowerGroup_multiply : FnScope sN_PowerGroup_multiply ["self", "first", "second"] (defScope s_PowerGroup_multiply) := ⟨rfl, rfl, rfl, by decide +kernel, rfl, by decide +kernel, by decide +kernel⟩
abbrev s__law_right : Stmt := topS 21
abbrev sN__law_right : List Str := ["box", "q", "p", "made", "again", "row", "members", "turn", "a", "b", "back", "strange", "value", "due", "x"]
theorem sc__law_right : FnScope sN__law_right ["box", "q"] (defScope s__law_right) := ⟨rfl, rfl, rfl, by decide +kernel, rfl, by decide +kernel, by decide +kernel⟩
abbrev s__law_is_refused : Stmt := topS 22
abbrev sN__law_is_refused : List Str := ["p", "q"]
theorem sc__law_is_refused : FnScope sN__law_is_refused ["p", "q"] (defScope s__law_is_refused) := ⟨rfl, rfl, rfl, by decide +kernel, rfl, by decide +kernel, by decide +kernel⟩
abbrev s__law_composite : Stmt := topS 23
abbrev sN__law_composite : List Str := ["box", "q", "many", "at", "turn", "p"]
theorem sc__law_composite : FnScope sN__law_composite ["box", "q"] (defScope s__law_composite) := ⟨rfl, rfl, rfl, by decide +kernel, rfl, by decide +kernel, by decide +kernel⟩
abbrev s__law_beyond : Stmt := topS 24
abbrev sN__law_beyond : List Str := ["box", "q", "p"]
theorem sc__law_beyond : FnScope sN__law_beyond ["box", "q"] (defScope s__law_beyond) := ⟨rfl, rfl, rfl, by decide +kernel, rfl, by decide +kernel, by decide +kernel⟩
abbrev s__law_wrong_orders : Stmt := topS 25
abbrev sN__law_wrong_orders : List Str := ["p", "found", "d"]
theorem sc__law_wrong_orders : FnScope sN__law_wrong_orders ["p"] (defScope s__law_wrong_orders) := ⟨rfl, rfl, rfl, by decide +kernel, rfl, by decide +kernel, by decide +kernel⟩
abbrev s__law_great_order : Stmt := topS 26
abbrev sN__law_great_order : List Str := ["box", "q"]
theorem sc__law_great_order : FnScope sN__law_great_order ["box"] (defScope s__law_great_order) := ⟨rfl, rfl, rfl, by decide +kernel, rfl, by decide +kernel, by decide +kernel⟩
abbrev s_law : Stmt := topS 27
abbrev sN_law : List Str := ["script", "box", "far", "q", "p", "order", "modulus", "great"]
theorem sc_law : FnScope sN_law ["script"] (defScope s_law) := ⟨rfl, rfl, rfl, by decide +kernel, rfl, by decide +kernel, by decide +kernel⟩
/-- the class c lies at or under x -/
def sub_b (x c : String) : Bool := match c with
  | "BadGroup" => ["BadGroup", "HushError"].contains x
  | _ => false
def sub_c (x c : String) : Option Bool := if ["BadGroup"].contains c then some (sub_b x c) else none
abbrev cs_ : List String := ["PowerGroup"]
/-- isinstance of own classes -/
def sub_i (c n : String) : Option Bool := match c, n with
  | "PowerGroup", "Group" => some true
  | _, _ => none
/-- what the top has made -/
structure Facts (P : Program) (K : PySem.W.Frag) (mg : Str → Option Value) where
  a__law_box : Addr
  fd__law_box : FuncData
  F__law_box : Fun K "_law_box" "_law_box" s__law_box a__law_box fd__law_box
  g__law_box : mg "_law_box" = some (.ref a__law_box)
  a__law_mix : Addr
  fd__law_mix : FuncData
  F__law_mix : Fun K "_law_mix" "_law_mix" s__law_mix a__law_mix fd__law_mix
  g__law_mix : mg "_law_mix" = some (.ref a__law_mix)
  a__law_draw : Addr
  fd__law_draw : FuncData
  F__law_draw : Fun K "_law_draw" "_law_draw" s__law_draw a__law_draw fd__law_draw
  g__law_draw : mg "_law_draw" = some (.ref a__law_draw)
  a__law_is_prime : Addr
  fd__law_is_prime : FuncData
  F__law_is_prime : Fun K "_law_is_prime" "_law_is_prime" s__law_is_prime a__law_is_prime fd__law_is_prime
  g__law_is_prime : mg "_law_is_prime" = some (.ref a__law_is_prime)
  a__law_prime : Addr
  fd__law_prime : FuncData
  F__law_prime : Fun K "_law_prime" "_law_prime" s__law_prime a__law_prime fd__law_prime
  g__law_prime : mg "_law_prime" = some (.ref a__law_prime)
  a__law_modulus : Addr
  fd__law_modulus : FuncData
  F__law_modulus : Fun K "_law_modulus" "_law_modulus" s__law_modulus a__law_modulus fd__law_modulus
  g__law_modulus : mg "_law_modulus" = some (.ref a__law_modulus)
  a__law_alike : Addr
  fd__law_alike : FuncData
  F__law_alike : Fun K "_law_alike" "_law_alike" s__law_alike a__law_alike fd__law_alike
  g__law_alike : mg "_law_alike" = some (.ref a__law_alike)
  a__law_to : Addr
  fd__law_to : FuncData
  F__law_to : Fun K "_law_to" "_law_to" s__law_to a__law_to fd__law_to
  g__law_to : mg "_law_to" = some (.ref a__law_to)
  a__law_powers : Addr
  fd__law_powers : FuncData
  F__law_powers : Fun K "_law_powers" "_law_powers" s__law_powers a__law_powers fd__law_powers
  g__law_powers : mg "_law_powers" = some (.ref a__law_powers)
  a__law_members : Addr
  fd__law_members : FuncData
  F__law_members : Fun K "_law_members" "_law_members" s__law_members a__law_members fd__law_members
  g__law_members : mg "_law_members" = some (.ref a__law_members)
  a_Group_power : Addr
  fd_Group_power : FuncData
  F_Group_power : Fun K "power" "Group.power" s_Group_power a_Group_power fd_Group_power
  a_Group_inverse_of : Addr
  fd_Group_inverse_of : FuncData
  F_Group_inverse_of : Fun K "inverse_of" "Group.inverse_of" s_Group_inverse_of a_Group_inverse_of fd_Group_inverse_of
  a_Group_has : Addr
  fd_Group_has : FuncData
  F_Group_has : Fun K "has" "Group.has" s_Group_has a_Group_has fd_Group_has
  a_is_prime : Addr
  fd_is_prime : FuncData
  F_is_prime : Fun K "is_prime" "is_prime" s_is_prime a_is_prime fd_is_prime
  g_is_prime : mg "is_prime" = some (.ref a_is_prime)
  a__member_of_order : Addr
  fd__member_of_order : FuncData
  F__member_of_order : Fun K "_member_of_order" "_member_of_order" s__member_of_order a__member_of_order fd__member_of_order
  g__member_of_order : mg "_member_of_order" = some (.ref a__member_of_order)
  a_Group___init__ : Addr
  fd_Group___init__ : FuncData
  F_Group___init__ : Fun K "__init__" "Group.__init__" s_Group___init__ a_Group___init__ fd_Group___init__
  a_PowerGroup___init__ : Addr
  cc_PowerGroup___init__ : Addr
  ca_PowerGroup___init__ : Addr
  fd_PowerGroup___init__ : FuncData
  F_PowerGroup___init__ : FunS K "__init__" "PowerGroup.__init__" s_PowerGroup___init__ a_PowerGroup___init__ cc_PowerGroup___init__ ca_PowerGroup___init__ fd_PowerGroup___init__
  hco_PowerGroup___init__ : ∃ (cv : Value) (cd : Option Addr) (vs : Array Value) (cs : Array (Option Value)) (file : Str) (tf : Tok), K.lookup ca_PowerGroup___init__ = some ⟨cv, cd, .fields vs, cs⟩ ∧ vs[2]? = some (.str file tf) ∧ ((P.main.file : Str) == file) = true
  a_PowerGroup_multiply : Addr
  fd_PowerGroup_multiply : FuncData
  F_PowerGroup_multiply : Fun K "multiply" "PowerGroup.multiply" s_PowerGroup_multiply a_PowerGroup_multiply fd_PowerGroup_multiply
  a__law_right : Addr
  fd__law_right : FuncData
  F__law_right : Fun K "_law_right" "_law_right" s__law_right a__law_right fd__law_right
  g__law_right : mg "_law_right" = some (.ref a__law_right)
  a__law_is_refused : Addr
  fd__law_is_refused : FuncData
  F__law_is_refused : Fun K "_law_is_refused" "_law_is_refused" s__law_is_refused a__law_is_refused fd__law_is_refused
  g__law_is_refused : mg "_law_is_refused" = some (.ref a__law_is_refused)
  a__law_composite : Addr
  fd__law_composite : FuncData
  F__law_composite : Fun K "_law_composite" "_law_composite" s__law_composite a__law_composite fd__law_composite
  g__law_composite : mg "_law_composite" = some (.ref a__law_composite)
  a__law_beyond : Addr
  fd__law_beyond : FuncData
  F__law_beyond : Fun K "_law_beyond" "_law_beyond" s__law_beyond a__law_beyond fd__law_beyond
  g__law_beyond : mg "_law_beyond" = some (.ref a__law_beyond)
  a__law_wrong_orders : Addr
  fd__law_wrong_orders : FuncData
  F__law_wrong_orders : Fun K "_law_wrong_orders" "_law_wrong_orders" s__law_wrong_orders a__law_wrong_orders fd__law_wrong_orders
  g__law_wrong_orders : mg "_law_wrong_orders" = some (.ref a__law_wrong_orders)
  a__law_great_order : Addr
  fd__law_great_order : FuncData
  F__law_great_order : Fun K "_law_great_order" "_law_great_order" s__law_great_order a__law_great_order fd__law_great_order
  g__law_great_order : mg "_law_great_order" = some (.ref a__law_great_order)
  a_law : Addr
  fd_law : FuncData
  F_law : Fun K "law" "law" s_law a_law fd_law
  g_law : mg "law" = some (.ref a_law)
  C_BadGroup : Addr
  gc_BadGroup : mg "BadGroup" = some (.ref C_BadGroup)
  k_BadGroup : PySem.W.keepIn K (.ref C_BadGroup) = true
  q_BadGroup : PySem.W.excIn K C_BadGroup [.type "ValueError", .type "Exception", .type "BaseException", .type "object"] "ValueError.__new__" = true
  b_BadGroup : PySem.W.subIn K (.ref C_BadGroup) (.type "BaseException") = some true
  t_BadGroup : PySem.W.typeIn K (.ref C_BadGroup) = some (.type "type")
  e_BadGroup : ExcC K C_BadGroup
  C_Group : Addr
  gc_Group : mg "Group" = some (.ref C_Group)
  C_PowerGroup : Addr
  gc_PowerGroup : mg "PowerGroup" = some (.ref C_PowerGroup)
  cdt_PowerGroup : ∃ cd, PySem.W.clsIn K C_PowerGroup = some cd
  hce_PowerGroup___init__ : ∃ (c0 : Value) (cd : Option Addr) (cs : Array (Option Value)), K.lookup cc_PowerGroup___init__ = some ⟨c0, cd, .cell (some (.ref C_PowerGroup)), cs⟩
  top_super : (P.main.scope.names.lookup ("super" : Str)).isSome = false
  opq : PySem.W.nsIn K cStatics "thirdparty.any" = some none
  z_super : mg "super" = none
  mk_PowerGroup : Mk K C_PowerGroup a_PowerGroup___init__
  cls_PowerGroup : Cls K C_PowerGroup
  na_PowerGroup__exponents : NoAttr K C_PowerGroup "_exponents"
  na_PowerGroup__powers : NoAttr K C_PowerGroup "_powers"
  na_PowerGroup_members : NoAttr K C_PowerGroup "members"
  na_PowerGroup_modulus : NoAttr K C_PowerGroup "modulus"
  na_PowerGroup_order : NoAttr K C_PowerGroup "order"
  na_PowerGroup_unit : NoAttr K C_PowerGroup "unit"
  mt_PowerGroup_has : Meth K C_PowerGroup "has" a_Group_has
  mt_PowerGroup_inverse_of : Meth K C_PowerGroup "inverse_of" a_Group_inverse_of
  mt_PowerGroup_multiply : Meth K C_PowerGroup "multiply" a_PowerGroup_multiply
  mt_PowerGroup_power : Meth K C_PowerGroup "power" a_Group_power
  sup_PowerGroup_PowerGroup___init__ : SupF K C_PowerGroup C_PowerGroup "__init__" a_Group___init__
  ki_PowerGroup_Group : PySem.W.kitOne K (.ref C_PowerGroup) (.ref C_Group) = some true
  ica_PowerGroup : PySem.W.findIn K (.ref C_PowerGroup) "__class__" = some (some (.builtin "object.__class__"))
  ico_PowerGroup : PySem.W.mroIn K C_PowerGroup (.type "object") = some true
  ihn : PySem.W.specialIn K (.builtin "object.__class__") "__get__" = some (some (.builtin "getset_descriptor.__get__"))
  iht : PySem.W.takesIn K (.builtin "object.__class__") = some true
  x_BadGroup_BadGroup : PySem.W.exmOne K (.ref C_BadGroup) (.ref C_BadGroup) = some true
  z_all : mg "all" = none
  z_bool : mg "bool" = none
  z_enumerate : mg "enumerate" = none
  z_int : mg "int" = none
  z_isinstance : mg "isinstance" = none
  z_len : mg "len" = none
  z_list : mg "list" = none
  z_range : mg "range" = none
  z_sorted : mg "sorted" = none
  z_str : mg "str" = none
  z_tuple : mg "tuple" = none
section
variable {P : Program} {w : World} {K : PySem.W.Frag} {mg : Str → Option Value} {base : Heap} (Fx : Facts P K mg)
def Facts.cl : Cl := ⟨fun c => match c with
  | "Group" => some Fx.C_Group
  | "PowerGroup" => some Fx.C_PowerGroup
  | "BadGroup" => some Fx.C_BadGroup
  | _ => none, none⟩
theorem Facts.cl_BadGroup : Fx.cl.f "BadGroup" = some Fx.C_BadGroup := rfl
theorem Facts.fld__exponents : ∀ c ∈ cs_, ∀ C, Fx.cl.f c = some C → Cls K C ∧ NoAttr K C "_exponents" := by
  intro c hc C h
  rcases List.mem_cons.mp hc with rfl | hc
  · cases h; exact ⟨Fx.cls_PowerGroup, Fx.na_PowerGroup__exponents⟩
  cases hc
theorem Facts.fld__powers : ∀ c ∈ cs_, ∀ C, Fx.cl.f c = some C → Cls K C ∧ NoAttr K C "_powers" := by
  intro c hc C h
  rcases List.mem_cons.mp hc with rfl | hc
  · cases h; exact ⟨Fx.cls_PowerGroup, Fx.na_PowerGroup__powers⟩
  cases hc
theorem Facts.fld_members : ∀ c ∈ cs_, ∀ C, Fx.cl.f c = some C → Cls K C ∧ NoAttr K C "members" := by
  intro c hc C h
  rcases List.mem_cons.mp hc with rfl | hc
  · cases h; exact ⟨Fx.cls_PowerGroup, Fx.na_PowerGroup_members⟩
  cases hc
theorem Facts.fld_modulus : ∀ c ∈ cs_, ∀ C, Fx.cl.f c = some C → Cls K C ∧ NoAttr K C "modulus" := by
  intro c hc C h
  rcases List.mem_cons.mp hc with rfl | hc
  · cases h; exact ⟨Fx.cls_PowerGroup, Fx.na_PowerGroup_modulus⟩
  cases hc
theorem Facts.fld_order : ∀ c ∈ cs_, ∀ C, Fx.cl.f c = some C → Cls K C ∧ NoAttr K C "order" := by
  intro c hc C h
  rcases List.mem_cons.mp hc with rfl | hc
  · cases h; exact ⟨Fx.cls_PowerGroup, Fx.na_PowerGroup_order⟩
  cases hc
theorem Facts.fld_unit : ∀ c ∈ cs_, ∀ C, Fx.cl.f c = some C → Cls K C ∧ NoAttr K C "unit" := by
  intro c hc C h
  rcases List.mem_cons.mp hc with rfl | hc
  · cases h; exact ⟨Fx.cls_PowerGroup, Fx.na_PowerGroup_unit⟩
  cases hc
theorem Facts.sup_PowerGroup___init__ : ∀ c ∈ cs_, ∀ C, Fx.cl.f c = some C → SupF K C Fx.C_PowerGroup "__init__" Fx.a_Group___init__ := by
  intro c hc C h
  rcases List.mem_cons.mp hc with rfl | hc
  · cases h; exact Fx.sup_PowerGroup_PowerGroup___init__
  cases hc
theorem Facts.isC : IsC K Fx.cl.f sub_i := by
  refine ⟨fun c n r C D h h1 h2 => ?_, fun c n r C h h1 => ?_, Fx.ihn, Fx.iht⟩
  · unfold sub_i at h; split at h
    · cases h; cases h1; cases h2; exact Fx.ki_PowerGroup_Group
    · cases h
  · unfold sub_i at h; split at h
    · cases h; cases h1; exact ⟨Fx.cls_PowerGroup, Fx.ica_PowerGroup, Fx.ico_PowerGroup⟩
    · cases h
theorem Facts.sub_BadGroup (c : String) (C : Addr) (b : Bool) (h : Fx.cl.f c = some C) (hb : sub_c "BadGroup" c = some b) : PySem.W.exmOne K (.ref C) (.ref Fx.C_BadGroup) = some b := by
  unfold Facts.cl at h; simp only at h; split at h
  · cases hb
  · cases hb
  · cases h; cases hb; exact Fx.x_BadGroup_BadGroup
  · cases h
theorem Facts.nm_BadGroup {X : Cx} (hg : Gl X "BadGroup") (hm : X.mg = mg := by rfl) : Names X "BadGroup" (.ref Fx.C_BadGroup) := ⟨hg, by decide, .inl (by rw [hm]; exact Fx.gc_BadGroup)⟩
theorem kb__law_box_2_ : KB K Fx.fd__law_box ["script", "at"] [] 2 0 [0, 1] := KB.of Fx.F__law_box (fun _ _ _ _ _ _ us ws h0 h1 => match us, ws, h0, h1 with | [_, _], [], _, _ => rfl) (by decide)
def b__law_box : En → Out :=
  (sRet (dLst (aCons (dC (.int 0)) (aCons (dC (.int 0)) (aCons (dVar 1) (aCons (dC (.int 0)) (aCons (dVar 1) (aCons (dFz (dLc (iAny (dVar 0)) [2] (tName 2) dYes (dCall (on1 fInt) (vCons (vS 2) vNil)))) aNil))))))))
def d__law_box : Den := denFn [true, true] 3 b__law_box
theorem ok__law_box : FnOk P w K mg base (L2.CX P w) 1 Fx.a__law_box Fx.fd__law_box ["script", "at"] (spD ⟨K, Fx.cl.f, none⟩ 2 d__law_box) := by
  refine fn_ok (cl := Fx.cl) (k := 0) rfl Fx.F__law_box sc__law_box rfl (by decide) fun cdv A outer s H E hr => ?_
  exact (show HSs _ _ _ _ b__law_box from (hss_one (hs_ret (he_lst (ha_cons he_int (ha_cons he_int (ha_cons (he_var (pv 1)) (ha_cons he_int (ha_cons (he_var (pv 1)) (ha_cons (he_fz (he_lc (own := [("cell", 2)]) (di := (iAny (dVar 0))) (t := (tName 2)) (dc := dYes) (de := (dCall (on1 fInt) (vCons (vS 2) vNil))) (pe_lc rfl sc__law_box.nd (hi_any (he_var (pv 0))) (blkOk_by (own := [("cell", 2)]) (N := sN__law_box) (sc := defScope s__law_box) (by decide +kernel)) (fun _ _ _ _ _ => (hg_name (pg_name (i := 2) sc__law_box.nd rfl (by first | exact .inl rfl | exact .inr rfl)))) (fun _ _ _ _ _ => hts_nil) (fun _ _ _ _ _ => (he_callTy (f := (on1 fInt)) call_int1 cInt (by rfl) Fx.z_int rfl (hvs_cons (hv_name (pv 2)) hvs_nil)))))) ha_nil))))))))))
theorem kb__law_mix_2_ : KB K Fx.fd__law_mix ["cell", "salt"] [] 2 0 [0, 1] := KB.of Fx.F__law_mix (fun _ _ _ _ _ _ us ws h0 h1 => match us, ws, h0, h1 with | [_, _], [], _, _ => rfl) (by decide)
def b__law_mix : En → Out :=
  (sSeq (sAsg (dBin fMod (vT (dCall (on1 fInt) (vCons (vT (dBin fAdd (vT (dBin fAdd (vT (dBin fMul (vS 0) (vT (dC (.int 48271))))) (vT (dBin fMul (vS 1) (vT (dC (.int 69621))))))) (vT (dC (.int 12345))))) vNil))) (vT (dC (.int 2147483647)))) (tName 2))
  (sRet (dBin fMod (vT (dCall (on1 fInt) (vCons (vT (dBin fAdd (vT (dBin fAdd (vT (dBin fMul (vS 2) (vS 2))) (vT (dBin fMul (vS 2) (vT (dC (.int 16807))))))) (vT (dBin fMul (vS 1) (vT (dC (.int 7919))))))) vNil))) (vT (dC (.int 2147483629))))))
def d__law_mix : Den := denFn [true, true] 3 b__law_mix
theorem ok__law_mix : FnOk P w K mg base (L2.CX P w) 1 Fx.a__law_mix Fx.fd__law_mix ["cell", "salt"] (spD ⟨K, Fx.cl.f, none⟩ 2 d__law_mix) := by
  refine fn_ok (cl := Fx.cl) (k := 0) rfl Fx.F__law_mix sc__law_mix rfl (by decide) fun cdv A outer s H E hr => ?_
  exact (show HSs _ _ _ _ b__law_mix from (hss_cons (hs_asg (ss := [2]) (he_mod (hv_of (he_callTy (f := (on1 fInt)) call_int1 cInt (by rfl) Fx.z_int rfl (hvs_cons (hv_of (he_add (hv_of (he_add (hv_of (he_mul (hv_name (pv 0)) (hv_of he_int))) (hv_of (he_mul (hv_name (pv 1)) (hv_of he_int))))) (hv_of he_int))) hvs_nil))) (hv_of he_int)) (hg_name (pg_name (i := 2) sc__law_mix.nd rfl (by first | exact .inl rfl | exact .inr rfl))))
      (hss_one (hs_ret (he_mod (hv_of (he_callTy (f := (on1 fInt)) call_int1 cInt (by rfl) Fx.z_int rfl (hvs_cons (hv_of (he_add (hv_of (he_add (hv_of (he_mul (hv_name (pv 2)) (hv_name (pv 2)))) (hv_of (he_mul (hv_name (pv 2)) (hv_of he_int))))) (hv_of (he_mul (hv_name (pv 1)) (hv_of he_int))))) hvs_nil))) (hv_of he_int))))))
theorem kb__law_draw_2_ : KB K Fx.fd__law_draw ["box", "many"] [] 2 0 [0, 1] := KB.of Fx.F__law_draw (fun _ _ _ _ _ _ us ws h0 h1 => match us, ws, h0, h1 with | [_, _], [], _, _ => rfl) (by decide)
def b__law_draw : En → Out :=
  (sSeq (sIf (dAndT (dTst (dBin fEq (vT (dBin fIx (vS 0) (vT (dC (.int 1))))) (vT (dC (.int 0))))) (dTst (dBin fLt (vT (dBin fIx (vS 0) (vT (dC (.int 2))))) (vT (dCall fLenU (vCons (vT (dBin fIx (vS 0) (vT (dC (.int 5))))) vNil)))))) (sSeq (sAsg (dBin fIx (vT (dBin fIx (vS 0) (vT (dC (.int 5))))) (vT (dBin fIx (vS 0) (vT (dC (.int 2)))))) (tName 2))
  (sSeq (sAsg (dBin fAdd (vT (dBin fIx (vS 0) (vT (dC (.int 2))))) (vT (dC (.int 2)))) (tSub 0 (vT (dC (.int 2)))))
  (sSeq (sAsg (dBin fMod (vT (dCall (on1 fInt) (vCons (vT (dBin fAdd (vT (dBin fMul (vT (dBin fIx (vS 0) (vT (dC (.int 4))))) (vT (dC (.int 31))))) (vS 2))) vNil))) (vT (dC (.int 2147483647)))) (tSub 0 (vT (dC (.int 4)))))
  (sIf (dTst (dBin fGe (vS 2) (vT (dBin fPow (vT (dC (.int 10))) (vT (dC (.int 18))))))) (sSeq (sAsg (dBin fSub (vS 2) (vT (dBin fPow (vT (dC (.int 10))) (vT (dC (.int 18)))))) (tSub 0 (vT (dC (.int 0)))))
  (sAsg (dC (.int 60)) (tSub 0 (vT (dC (.int 1)))))) sNext)))) sNext)
  (sSeq (sIf (dAndT (dTst (dBin fGt (vT (dBin fIx (vS 0) (vT (dC (.int 1))))) (vT (dC (.int 0))))) (dTst (dBin fGt (vT (dBin fIx (vS 0) (vT (dC (.int 0))))) (vT (dC (.int 0)))))) (sSeq (sAsg (dBin fMod (vT (dCall (on1 fInt) (vCons (vT (dBin fIx (vS 0) (vT (dC (.int 0))))) vNil))) (vS 1)) (tName 3))
  (sSeq (sAsg (dBin fDiv (vT (dBin fIx (vS 0) (vT (dC (.int 0))))) (vS 1)) (tSub 0 (vT (dC (.int 0)))))
  (sSeq (sAsg (dBin fSub (vT (dBin fIx (vS 0) (vT (dC (.int 1))))) (vT (dC (.int 1)))) (tSub 0 (vT (dC (.int 1)))))
  (sRet (dMove 3))))) sNext)
  (sSeq (sAsg (dC (.int 0)) (tSub 0 (vT (dC (.int 1)))))
  (sSeq (sAsg (dBin fAdd (vT (dBin fIx (vS 0) (vT (dC (.int 3))))) (vT (dC (.int 1)))) (tSub 0 (vT (dC (.int 3)))))
  (sRet (dBin fMod (vT (dCall (on1 fInt) (vCons (vT (dCallF d__law_mix [0, 1] (cCons (gVal (dBin fIx (vS 0) (vT (dC (.int 4))))) (cCons (gVal (dBin fIx (vS 0) (vT (dC (.int 3))))) cNil)))) vNil))) (vS 1)))))))
def d__law_draw : Den := denFn [true, true] 4 b__law_draw
theorem ok__law_draw : FnOk P w K mg base (L2.CX P w) 2 Fx.a__law_draw Fx.fd__law_draw ["box", "many"] (spD ⟨K, Fx.cl.f, none⟩ 2 d__law_draw) := by
  refine fn_ok (cl := Fx.cl) (k := 1) rfl Fx.F__law_draw sc__law_draw rfl (by decide) fun cdv A outer s H E hr => ?_
  exact (show HSs _ _ _ _ b__law_draw from (hss_cons (hs_if (ht_w (hw_and (ht_cmp (f := fEq) (OpR.or op_eq (op_eqD hr.units)) bEq (hv_of (he_sbs (hu_of hr) (hv_name (pv 0)) (hv_of he_int) (fun _ _ => rfl))) (hv_of he_int) (nomark _)) (hw_and1 (ht_cmp (f := fLt) op_lt bLt (hv_of (he_sbs (hu_of hr) (hv_name (pv 0)) (hv_of he_int) (fun _ _ => rfl))) (hv_of (he_callB (f := fLenU) (CallR.or call_len_seq (CallR.or call_len_str call_lenD)) cLenU (by rfl) Fx.z_len rfl (hvs_cons (hv_of (he_sbs (hu_of hr) (hv_name (pv 0)) (hv_of he_int) (fun _ _ => rfl))) hvs_nil))) (nomark _))))) (hss_cons (hs_asg (ss := [2]) (he_sbs (hu_of hr) (hv_of (he_sbs (hu_of hr) (hv_name (pv 0)) (hv_of he_int) (fun _ _ => rfl))) (hv_of (he_sbs (hu_of hr) (hv_name (pv 0)) (hv_of he_int) (fun _ _ => rfl))) (fun _ _ => rfl)) (hg_name (pg_name (i := 2) sc__law_draw.nd rfl (by first | exact .inl rfl | exact .inr rfl))))
      (hss_cons (hs_asg (ss := []) (he_add (hv_of (he_sbs (hu_of hr) (hv_name (pv 0)) (hv_of he_int) (fun _ _ => rfl))) (hv_of he_int)) (hg_sub (Wo := Wf) (hu_of hr) (pv 0) (hv_of he_int)))
      (hss_cons (hs_asg (ss := []) (he_mod (hv_of (he_callTy (f := (on1 fInt)) call_int1 cInt (by rfl) Fx.z_int rfl (hvs_cons (hv_of (he_add (hv_of (he_mul (hv_of (he_sbs (hu_of hr) (hv_name (pv 0)) (hv_of he_int) (fun _ _ => rfl))) (hv_of he_int))) (hv_name (pv 2)))) hvs_nil))) (hv_of he_int)) (hg_sub (Wo := Wf) (hu_of hr) (pv 0) (hv_of he_int)))
      (hss_one (hs_if (ht_cmp (f := fGe) op_ge bGe (hv_name (pv 2)) (hv_of (he_pow (hv_of he_int) (hv_of he_int))) (nomark _)) (hss_cons (hs_asg (ss := []) (he_sub (hv_name (pv 2)) (hv_of (he_pow (hv_of he_int) (hv_of he_int)))) (hg_sub (Wo := Wf) (hu_of hr) (pv 0) (hv_of he_int)))
      (hss_one (hs_asg (ss := []) he_int (hg_sub (Wo := Wf) (hu_of hr) (pv 0) (hv_of he_int))))) hss_nil))))) hss_nil)
      (hss_cons (hs_if (ht_w (hw_and (ht_cmp (f := fGt) op_gt bGt (hv_of (he_sbs (hu_of hr) (hv_name (pv 0)) (hv_of he_int) (fun _ _ => rfl))) (hv_of he_int) (nomark _)) (hw_and1 (ht_cmp (f := fGt) op_gt bGt (hv_of (he_sbs (hu_of hr) (hv_name (pv 0)) (hv_of he_int) (fun _ _ => rfl))) (hv_of he_int) (nomark _))))) (hss_cons (hs_asg (ss := [3]) (he_mod (hv_of (he_callTy (f := (on1 fInt)) call_int1 cInt (by rfl) Fx.z_int rfl (hvs_cons (hv_of (he_sbs (hu_of hr) (hv_name (pv 0)) (hv_of he_int) (fun _ _ => rfl))) hvs_nil))) (hv_name (pv 1))) (hg_name (pg_name (i := 3) sc__law_draw.nd rfl (by first | exact .inl rfl | exact .inr rfl))))
      (hss_cons (hs_asg (ss := []) (he_fdiv (hv_of (he_sbs (hu_of hr) (hv_name (pv 0)) (hv_of he_int) (fun _ _ => rfl))) (hv_name (pv 1))) (hg_sub (Wo := Wf) (hu_of hr) (pv 0) (hv_of he_int)))
      (hss_cons (hs_asg (ss := []) (he_sub (hv_of (he_sbs (hu_of hr) (hv_name (pv 0)) (hv_of he_int) (fun _ _ => rfl))) (hv_of he_int)) (hg_sub (Wo := Wf) (hu_of hr) (pv 0) (hv_of he_int)))
      (hss_one (hs_ret (he_move (pv 3))))))) hss_nil)
      (hss_cons (hs_asg (ss := []) he_int (hg_sub (Wo := Wf) (hu_of hr) (pv 0) (hv_of he_int)))
      (hss_cons (hs_asg (ss := []) (he_add (hv_of (he_sbs (hu_of hr) (hv_name (pv 0)) (hv_of he_int) (fun _ _ => rfl))) (hv_of he_int)) (hg_sub (Wo := Wf) (hu_of hr) (pv 0) (hv_of he_int)))
      (hss_one (hs_ret (he_mod (hv_of (he_callTy (f := (on1 fInt)) call_int1 cInt (by rfl) Fx.z_int rfl (hvs_cons (hv_of (he_fn (ok__law_mix Fx) (hr.mono (by first | decide | omega)) (takes_of rfl rfl rfl rfl) (by rfl) Fx.g__law_mix Fx.F__law_mix.kp (kb__law_mix_2_ Fx) (hc_cons (ga_val (he_sbs (hu_of hr) (hv_name (pv 0)) (hv_of he_int) (fun _ _ => rfl))) (hc_cons (ga_val (he_sbs (hu_of hr) (hv_name (pv 0)) (hv_of he_int) (fun _ _ => rfl))) hc_nil)))) hvs_nil))) (hv_name (pv 1))))))))))
theorem kb__law_is_prime_1_ : KB K Fx.fd__law_is_prime ["n"] [] 1 0 [0] := KB.of Fx.F__law_is_prime (fun _ _ _ _ _ _ us ws h0 h1 => match us, ws, h0, h1 with | [_], [], _, _ => rfl) (by decide)
def b__law_is_prime : En → Out :=
  (sSeq (sIf (dTst (dBin fLt (vS 0) (vT (dC (.int 2))))) (sRet (dC (.bl false))) sNext)
  (sSeq (sFor (iOps (vCons (vT (dC (.int 2))) (vCons (vT (dC (.int 40))) vNil)) gR2) (tName 1) (sSeq (sIf (dTst (dBin fGt (vT (dBin fMul (vS 1) (vS 1))) (vS 0))) (sRet (dC (.bl true))) sNext)
  (sIf (dTst (dBin fEq (vT (dBin fMod (vT (dCall (on1 fInt) (vCons (vS 0) vNil))) (vS 1))) (vT (dC (.int 0))))) (sRet (dC (.bl false))) sNext)))
  (sRet (dC (.bl true)))))
def d__law_is_prime : Den := denFn [true] 2 b__law_is_prime
theorem ok__law_is_prime : FnOk P w K mg base (L2.CX P w) 1 Fx.a__law_is_prime Fx.fd__law_is_prime ["n"] (spD ⟨K, Fx.cl.f, none⟩ 1 d__law_is_prime) := by
  refine fn_ok (cl := Fx.cl) (k := 0) rfl Fx.F__law_is_prime sc__law_is_prime rfl (by decide) fun cdv A outer s H E hr => ?_
  exact (show HSs _ _ _ _ b__law_is_prime from (hss_cons (hs_if (ht_cmp (f := fLt) op_lt bLt (hv_name (pv 0)) (hv_of he_int) (nomark _)) (hss_one (hs_ret he_bl)) hss_nil)
      (hss_cons (hs_for (ss := [1]) (passes_of rfl) rfl (hi_range2 (by rfl) Fx.z_range (hvs_cons (hv_of he_int) (hvs_cons (hv_of he_int) hvs_nil))) (hg_name (pg_name (i := 1) sc__law_is_prime.nd rfl (by first | exact .inl rfl | exact .inr rfl))) (hss_cons (hs_if (ht_cmp (f := fGt) op_gt bGt (hv_of (he_mul (hv_name (pv 1)) (hv_name (pv 1)))) (hv_name (pv 0)) (nomark _)) (hss_one (hs_ret he_bl)) hss_nil)
      (hss_one (hs_if (ht_cmp (f := fEq) (OpR.or op_eq (op_eqD hr.units)) bEq (hv_of (he_mod (hv_of (he_callTy (f := (on1 fInt)) call_int1 cInt (by rfl) Fx.z_int rfl (hvs_cons (hv_name (pv 0)) hvs_nil))) (hv_name (pv 1)))) (hv_of he_int) (nomark _)) (hss_one (hs_ret he_bl)) hss_nil))))
      (hss_one (hs_ret he_bl)))))
theorem kb__law_prime_3_ : KB K Fx.fd__law_prime ["box", "low", "high"] [] 3 0 [0, 1, 2] := KB.of Fx.F__law_prime (fun _ _ _ _ _ _ us ws h0 h1 => match us, ws, h0, h1 with | [_, _, _], [], _, _ => rfl) (by decide)
def b__law_prime : En → Out :=
  (sSeq (sAsg (dCallF d__law_draw [0, 1] (cCons (gName 0) (cCons (gVal (dBin fAdd (vT (dBin fSub (vS 2) (vS 1))) (vT (dC (.int 1))))) cNil))) (tName 3))
  (sSeq (sFor (iOps (vCons (vT (dBin fAdd (vT (dBin fSub (vS 2) (vS 1))) (vT (dC (.int 1))))) vNil) gR1) (tName 4) (sSeq (sAsg (dBin fAdd (vS 1) (vT (dBin fMod (vT (dCall (on1 fInt) (vCons (vT (dBin fAdd (vS 3) (vS 4))) vNil))) (vT (dBin fAdd (vT (dBin fSub (vS 2) (vS 1))) (vT (dC (.int 1)))))))) (tName 5))
  (sIf (dTst (dCallF d__law_is_prime [0] (cCons (gName 5) cNil))) (sRet (dMove 5)) sNext)))
  (sRet (dC (.int 3)))))
def d__law_prime : Den := denFn [true, true, true] 6 b__law_prime
theorem ok__law_prime : FnOk P w K mg base (L2.CX P w) 3 Fx.a__law_prime Fx.fd__law_prime ["box", "low", "high"] (spD ⟨K, Fx.cl.f, none⟩ 3 d__law_prime) := by
  refine fn_ok (cl := Fx.cl) (k := 2) rfl Fx.F__law_prime sc__law_prime rfl (by decide) fun cdv A outer s H E hr => ?_
  exact (show HSs _ _ _ _ b__law_prime from (hss_cons (hs_asg (ss := [3]) (he_fn (ok__law_draw Fx) (hr.mono (by first | decide | omega)) (takes_of rfl rfl rfl rfl) (by rfl) Fx.g__law_draw Fx.F__law_draw.kp (kb__law_draw_2_ Fx) (hc_cons (ga_name (pv 0)) (hc_cons (ga_val (he_add (hv_of (he_sub (hv_name (pv 2)) (hv_name (pv 1)))) (hv_of he_int))) hc_nil))) (hg_name (pg_name (i := 3) sc__law_prime.nd rfl (by first | exact .inl rfl | exact .inr rfl))))
      (hss_cons (hs_for (ss := [4]) (passes_of rfl) rfl (hi_range1 (by rfl) Fx.z_range (hvs_cons (hv_of (he_add (hv_of (he_sub (hv_name (pv 2)) (hv_name (pv 1)))) (hv_of he_int))) hvs_nil)) (hg_name (pg_name (i := 4) sc__law_prime.nd rfl (by first | exact .inl rfl | exact .inr rfl))) (hss_cons (hs_asg (ss := [5]) (he_add (hv_name (pv 1)) (hv_of (he_mod (hv_of (he_callTy (f := (on1 fInt)) call_int1 cInt (by rfl) Fx.z_int rfl (hvs_cons (hv_of (he_add (hv_name (pv 3)) (hv_name (pv 4)))) hvs_nil))) (hv_of (he_add (hv_of (he_sub (hv_name (pv 2)) (hv_name (pv 1)))) (hv_of he_int)))))) (hg_name (pg_name (i := 5) sc__law_prime.nd rfl (by first | exact .inl rfl | exact .inr rfl))))
      (hss_one (hs_if (ht_val (he_fn (ok__law_is_prime Fx) (hr.mono (by first | decide | omega)) (takes_of rfl rfl rfl rfl) (by rfl) Fx.g__law_is_prime Fx.F__law_is_prime.kp (kb__law_is_prime_1_ Fx) (hc_cons (ga_name (pv 5)) hc_nil))) (hss_one (hs_ret (he_move (pv 5)))) hss_nil))))
      (hss_one (hs_ret he_int)))))
theorem kb__law_modulus_2_ : KB K Fx.fd__law_modulus ["box", "q"] [] 2 0 [0, 1] := KB.of Fx.F__law_modulus (fun _ _ _ _ _ _ us ws h0 h1 => match us, ws, h0, h1 with | [_, _], [], _, _ => rfl) (by decide)
def b__law_modulus : En → Out :=
  (sSeq (sAsg (dBin fDiv (vT (dC (.int 999))) (vS 1)) (tName 2))
  (sSeq (sAsg (dCallF d__law_draw [0, 1] (cCons (gName 0) (cCons (gName 2) cNil))) (tName 3))
  (sSeq (sFor (iOps (vCons (vS 2) vNil) gR1) (tName 4) (sSeq (sAsg (dBin fAdd (vT (dC (.int 1))) (vT (dBin fMul (vS 1) (vT (dBin fAdd (vT (dC (.int 1))) (vT (dBin fMod (vT (dCall (on1 fInt) (vCons (vT (dBin fAdd (vS 3) (vS 4))) vNil))) (vS 2)))))))) (tName 5))
  (sIf (dTst (dCallF d__law_is_prime [0] (cCons (gName 5) cNil))) (sRet (dMove 5)) sNext)))
  (sRet (dC (.int 0))))))
def d__law_modulus : Den := denFn [true, true] 6 b__law_modulus
theorem ok__law_modulus : FnOk P w K mg base (L2.CX P w) 3 Fx.a__law_modulus Fx.fd__law_modulus ["box", "q"] (spD ⟨K, Fx.cl.f, none⟩ 2 d__law_modulus) := by
  refine fn_ok (cl := Fx.cl) (k := 2) rfl Fx.F__law_modulus sc__law_modulus rfl (by decide) fun cdv A outer s H E hr => ?_
  exact (show HSs _ _ _ _ b__law_modulus from (hss_cons (hs_asg (ss := [2]) (he_fdiv (hv_of he_int) (hv_name (pv 1))) (hg_name (pg_name (i := 2) sc__law_modulus.nd rfl (by first | exact .inl rfl | exact .inr rfl))))
      (hss_cons (hs_asg (ss := [3]) (he_fn (ok__law_draw Fx) (hr.mono (by first | decide | omega)) (takes_of rfl rfl rfl rfl) (by rfl) Fx.g__law_draw Fx.F__law_draw.kp (kb__law_draw_2_ Fx) (hc_cons (ga_name (pv 0)) (hc_cons (ga_name (pv 2)) hc_nil))) (hg_name (pg_name (i := 3) sc__law_modulus.nd rfl (by first | exact .inl rfl | exact .inr rfl))))
      (hss_cons (hs_for (ss := [4]) (passes_of rfl) rfl (hi_range1 (by rfl) Fx.z_range (hvs_cons (hv_name (pv 2)) hvs_nil)) (hg_name (pg_name (i := 4) sc__law_modulus.nd rfl (by first | exact .inl rfl | exact .inr rfl))) (hss_cons (hs_asg (ss := [5]) (he_add (hv_of he_int) (hv_of (he_mul (hv_name (pv 1)) (hv_of (he_add (hv_of he_int) (hv_of (he_mod (hv_of (he_callTy (f := (on1 fInt)) call_int1 cInt (by rfl) Fx.z_int rfl (hvs_cons (hv_of (he_add (hv_name (pv 3)) (hv_name (pv 4)))) hvs_nil))) (hv_name (pv 2))))))))) (hg_name (pg_name (i := 5) sc__law_modulus.nd rfl (by first | exact .inl rfl | exact .inr rfl))))
      (hss_one (hs_if (ht_val (he_fn (ok__law_is_prime Fx) (hr.mono (by first | decide | omega)) (takes_of rfl rfl rfl rfl) (by rfl) Fx.g__law_is_prime Fx.F__law_is_prime.kp (kb__law_is_prime_1_ Fx) (hc_cons (ga_name (pv 5)) hc_nil))) (hss_one (hs_ret (he_move (pv 5)))) hss_nil))))
      (hss_one (hs_ret he_int))))))
theorem kb__law_alike_2_ : KB K Fx.fd__law_alike ["told", "due"] [] 2 0 [0, 1] := KB.of Fx.F__law_alike (fun _ _ _ _ _ _ us ws h0 h1 => match us, ws, h0, h1 with | [_, _], [], _, _ => rfl) (by decide)
def b__law_alike (dR : Den) : En → Out :=
  (sSeq (sIf (dTst (dUn (fIsiB ["tuple", "list"]) (vS 1))) (sSeq (sIf (dOrT (dTst (dBin fNe (vT (dCall (on2 fIsi) (vCons (vS 0) (vCons (vT (dC (.ty "tuple"))) vNil)))) (vT (dCall (on2 fIsi) (vCons (vS 1) (vCons (vT (dC (.ty "tuple"))) vNil)))))) (dTst (dBin fNe (vT (dCall (on2 fIsi) (vCons (vS 0) (vCons (vT (dC (.ty "list"))) vNil)))) (vT (dCall (on2 fIsi) (vCons (vS 1) (vCons (vT (dC (.ty "list"))) vNil))))))) (sRet (dC (.bl false))) sNext)
  (sSeq (sIf (dTst (dBin fNe (vT (dCall fLenU (vCons (vS 0) vNil))) (vT (dCall fLenU (vCons (vS 1) vNil))))) (sRet (dC (.bl false))) sNext)
  (sSeq (sFor (iOps (vCons (vT (dCall fLenU (vCons (vS 1) vNil))) vNil) gR1) (tName 2) (sIf (dNotT (dTst (dCallF dR [0, 1] (cCons (gVal (dBin fIx (vS 0) (vS 2))) (cCons (gVal (dBin fIx (vS 1) (vS 2))) cNil))))) (sRet (dC (.bl false))) sNext))
  (sRet (dC (.bl true)))))) sNext)
  (sSeq (sIf (dTst (dBin fIsN (vS 1) (vT (dC .non)))) (sRet (dBin fIsN (vS 0) (vT (dC .non)))) sNext)
  (sSeq (sIf (dTst (dCall (on2 fIsi) (vCons (vS 1) (vCons (vT (dC (.ty "bool"))) vNil)))) (sRet (dAndV (dCall (on2 fIsi) (vCons (vS 0) (vCons (vT (dC (.ty "bool"))) vNil))) (dBin fEq (vS 0) (vS 1)))) sNext)
  (sSeq (sIf (dTst (dCall (on2 fIsi) (vCons (vS 1) (vCons (vT (dC (.ty "str"))) vNil)))) (sRet (dAndV (dCall (on2 fIsi) (vCons (vS 0) (vCons (vT (dC (.ty "str"))) vNil))) (dBin fEq (vS 0) (vS 1)))) sNext)
  (sRet (dAndV (dCall (on2 fIsi) (vCons (vS 0) (vCons (vT (dC (.ty "int"))) vNil))) (dAndV (dNotV (dCall (on2 fIsi) (vCons (vS 0) (vCons (vT (dC (.ty "bool"))) vNil)))) (dBin fEq (vS 0) (vS 1)))))))))
def d__law_alike : Nat → Den
  | 0 => fun _ => .bad
  | k + 1 => denFn [true, true] 3 (b__law_alike (d__law_alike k))
theorem ok__law_alike : ∀ k : Nat, FnOk P w K mg base (L2.CX P w) (0 + k) Fx.a__law_alike Fx.fd__law_alike ["told", "due"] (spD ⟨K, Fx.cl.f, none⟩ 2 (d__law_alike k))
  | 0 => FnOk.bad Fx.F__law_alike sc__law_alike
  | k + 1 => by
    have hR := ok__law_alike k
    refine fn_ok (cl := Fx.cl) (k := 0 + k) rfl Fx.F__law_alike sc__law_alike rfl (by decide) fun cdv A outer s H E hr => ?_
    exact (show HSs _ _ _ _ (b__law_alike (d__law_alike k)) from (hss_cons (hs_if (ht_val (he_isiT (bs := ["tuple", "list"]) (pe_callB call_isiT (by rfl) Fx.z_isinstance rfl (pa_cons (hv_name (pv 1)) (pa_cons (pe_tup (pa_cons (pe_bty (by rfl) Fx.z_tuple rfl) (pa_cons (pe_bty (by rfl) Fx.z_list rfl) pa_nil))) pa_nil))) (fun _ _ _ h => h))) (hss_cons (hs_if (ht_w (hw_or (ht_cmp (f := fNe) (OpR.or op_ne (op_neD hr.units)) bNe (hv_of (he_callB (f := on2 fIsi) call_isi cIsi (by rfl) Fx.z_isinstance rfl (hvs_cons (hv_name (pv 0)) (hvs_cons (hv_of (he_ty (by rfl) Fx.z_tuple rfl)) hvs_nil)))) (hv_of (he_callB (f := on2 fIsi) call_isi cIsi (by rfl) Fx.z_isinstance rfl (hvs_cons (hv_name (pv 1)) (hvs_cons (hv_of (he_ty (by rfl) Fx.z_tuple rfl)) hvs_nil)))) (nomark _)) (hw_or1 (ht_cmp (f := fNe) (OpR.or op_ne (op_neD hr.units)) bNe (hv_of (he_callB (f := on2 fIsi) call_isi cIsi (by rfl) Fx.z_isinstance rfl (hvs_cons (hv_name (pv 0)) (hvs_cons (hv_of (he_ty (by rfl) Fx.z_list rfl)) hvs_nil)))) (hv_of (he_callB (f := on2 fIsi) call_isi cIsi (by rfl) Fx.z_isinstance rfl (hvs_cons (hv_name (pv 1)) (hvs_cons (hv_of (he_ty (by rfl) Fx.z_list rfl)) hvs_nil)))) (nomark _))))) (hss_one (hs_ret he_bl)) hss_nil)
      (hss_cons (hs_if (ht_cmp (f := fNe) (OpR.or op_ne (op_neD hr.units)) bNe (hv_of (he_callB (f := fLenU) (CallR.or call_len_seq (CallR.or call_len_str call_lenD)) cLenU (by rfl) Fx.z_len rfl (hvs_cons (hv_name (pv 0)) hvs_nil))) (hv_of (he_callB (f := fLenU) (CallR.or call_len_seq (CallR.or call_len_str call_lenD)) cLenU (by rfl) Fx.z_len rfl (hvs_cons (hv_name (pv 1)) hvs_nil))) (nomark _)) (hss_one (hs_ret he_bl)) hss_nil)
      (hss_cons (hs_for (ss := [2]) (passes_of rfl) rfl (hi_range1 (by rfl) Fx.z_range (hvs_cons (hv_of (he_callB (f := fLenU) (CallR.or call_len_seq (CallR.or call_len_str call_lenD)) cLenU (by rfl) Fx.z_len rfl (hvs_cons (hv_name (pv 1)) hvs_nil))) hvs_nil)) (hg_name (pg_name (i := 2) sc__law_alike.nd rfl (by first | exact .inl rfl | exact .inr rfl))) (hss_one (hs_if (ht_not (ht_val (he_fn hR (hr.mono (by omega)) (takes_of rfl rfl rfl rfl) (by rfl) Fx.g__law_alike Fx.F__law_alike.kp (kb__law_alike_2_ Fx) (hc_cons (ga_val (he_sbs (hu_of hr) (hv_name (pv 0)) (hv_name (pv 2)) (fun _ _ => rfl))) (hc_cons (ga_val (he_sbs (hu_of hr) (hv_name (pv 1)) (hv_name (pv 2)) (fun _ _ => rfl))) hc_nil))))) (hss_one (hs_ret he_bl)) hss_nil)))
      (hss_one (hs_ret he_bl))))) hss_nil)
      (hss_cons (hs_if (ht_cmp (f := fIsN) op_isN bIsN (hv_name (pv 1)) (hv_of he_non) (nomark _)) (hss_one (hs_ret (he_cmp (f := fIsN) op_isN bIsN (hv_name (pv 0)) (hv_of he_non) (nomark _)))) hss_nil)
      (hss_cons (hs_if (ht_val (he_callB (f := on2 fIsi) call_isi cIsi (by rfl) Fx.z_isinstance rfl (hvs_cons (hv_name (pv 1)) (hvs_cons (hv_of (he_ty (by rfl) Fx.z_bool rfl)) hvs_nil)))) (hss_one (hs_ret (he_and (he_callB (f := on2 fIsi) call_isi cIsi (by rfl) Fx.z_isinstance rfl (hvs_cons (hv_name (pv 0)) (hvs_cons (hv_of (he_ty (by rfl) Fx.z_bool rfl)) hvs_nil))) (he_one (he_cmp (f := fEq) (OpR.or op_eq (op_eqD hr.units)) bEq (hv_name (pv 0)) (hv_name (pv 1)) (nomark _)))))) hss_nil)
      (hss_cons (hs_if (ht_val (he_callB (f := on2 fIsi) call_isi cIsi (by rfl) Fx.z_isinstance rfl (hvs_cons (hv_name (pv 1)) (hvs_cons (hv_of (he_ty (by rfl) Fx.z_str rfl)) hvs_nil)))) (hss_one (hs_ret (he_and (he_callB (f := on2 fIsi) call_isi cIsi (by rfl) Fx.z_isinstance rfl (hvs_cons (hv_name (pv 0)) (hvs_cons (hv_of (he_ty (by rfl) Fx.z_str rfl)) hvs_nil))) (he_one (he_cmp (f := fEq) (OpR.or op_eq (op_eqD hr.units)) bEq (hv_name (pv 0)) (hv_name (pv 1)) (nomark _)))))) hss_nil)
      (hss_one (hs_ret (he_and (he_callB (f := on2 fIsi) call_isi cIsi (by rfl) Fx.z_isinstance rfl (hvs_cons (hv_name (pv 0)) (hvs_cons (hv_of (he_ty (by rfl) Fx.z_int rfl)) hvs_nil))) (he_and (he_not (he_callB (f := on2 fIsi) call_isi cIsi (by rfl) Fx.z_isinstance rfl (hvs_cons (hv_name (pv 0)) (hvs_cons (hv_of (he_ty (by rfl) Fx.z_bool rfl)) hvs_nil)))) (he_one (he_cmp (f := fEq) (OpR.or op_eq (op_eqD hr.units)) bEq (hv_name (pv 0)) (hv_name (pv 1)) (nomark _))))))))))))
theorem kb__law_to_3_ : KB K Fx.fd__law_to ["a", "n", "p"] [] 3 0 [0, 1, 2] := KB.of Fx.F__law_to (fun _ _ _ _ _ _ us ws h0 h1 => match us, ws, h0, h1 with | [_, _, _], [], _, _ => rfl) (by decide)
def b__law_to : En → Out :=
  (sSeq (sAsg (dC (.int 1)) (tName 3))
  (sSeq (sAsg (dVar 0) (tName 4))
  (sSeq (sAsg (dVar 1) (tName 5))
  (sSeq (sFor (iOps (vCons (vT (dC (.int 12))) vNil) gR1) (tName 6) (sSeq (sIf (dTst (dBin fEq (vT (dBin fMod (vT (dCall (on1 fInt) (vCons (vS 5) vNil))) (vT (dC (.int 2))))) (vT (dC (.int 1))))) (sAsg (dBin fMod (vT (dCall (on1 fInt) (vCons (vT (dBin fMul (vS 3) (vS 4))) vNil))) (vS 2)) (tName 3)) sNext)
  (sSeq (sAsg (dBin fMod (vT (dCall (on1 fInt) (vCons (vT (dBin fMul (vS 4) (vS 4))) vNil))) (vS 2)) (tName 4))
  (sAsg (dBin fDiv (vS 5) (vT (dC (.int 2)))) (tName 5)))))
  (sRet (dMove 3))))))
def d__law_to : Den := denFn [true, true, true] 7 b__law_to
theorem ok__law_to : FnOk P w K mg base (L2.CX P w) 1 Fx.a__law_to Fx.fd__law_to ["a", "n", "p"] (spD ⟨K, Fx.cl.f, none⟩ 3 d__law_to) := by
  refine fn_ok (cl := Fx.cl) (k := 0) rfl Fx.F__law_to sc__law_to rfl (by decide) fun cdv A outer s H E hr => ?_
  exact (show HSs _ _ _ _ b__law_to from (hss_cons (hs_asg (ss := [3]) he_int (hg_name (pg_name (i := 3) sc__law_to.nd rfl (by first | exact .inl rfl | exact .inr rfl))))
      (hss_cons (hs_asg (ss := [4]) (he_var (pv 0)) (hg_name (pg_name (i := 4) sc__law_to.nd rfl (by first | exact .inl rfl | exact .inr rfl))))
      (hss_cons (hs_asg (ss := [5]) (he_var (pv 1)) (hg_name (pg_name (i := 5) sc__law_to.nd rfl (by first | exact .inl rfl | exact .inr rfl))))
      (hss_cons (hs_for (ss := [6]) (passes_of rfl) rfl (hi_range1 (by rfl) Fx.z_range (hvs_cons (hv_of he_int) hvs_nil)) (hg_name (pg_name (i := 6) sc__law_to.nd rfl (by first | exact .inl rfl | exact .inr rfl))) (hss_cons (hs_if (ht_cmp (f := fEq) (OpR.or op_eq (op_eqD hr.units)) bEq (hv_of (he_mod (hv_of (he_callTy (f := (on1 fInt)) call_int1 cInt (by rfl) Fx.z_int rfl (hvs_cons (hv_name (pv 5)) hvs_nil))) (hv_of he_int))) (hv_of he_int) (nomark _)) (hss_one (hs_asg (ss := [3]) (he_mod (hv_of (he_callTy (f := (on1 fInt)) call_int1 cInt (by rfl) Fx.z_int rfl (hvs_cons (hv_of (he_mul (hv_name (pv 3)) (hv_name (pv 4)))) hvs_nil))) (hv_name (pv 2))) (hg_name (pg_name (i := 3) sc__law_to.nd rfl (by first | exact .inl rfl | exact .inr rfl))))) hss_nil)
      (hss_cons (hs_asg (ss := [4]) (he_mod (hv_of (he_callTy (f := (on1 fInt)) call_int1 cInt (by rfl) Fx.z_int rfl (hvs_cons (hv_of (he_mul (hv_name (pv 4)) (hv_name (pv 4)))) hvs_nil))) (hv_name (pv 2))) (hg_name (pg_name (i := 4) sc__law_to.nd rfl (by first | exact .inl rfl | exact .inr rfl))))
      (hss_one (hs_asg (ss := [5]) (he_fdiv (hv_name (pv 5)) (hv_of he_int)) (hg_name (pg_name (i := 5) sc__law_to.nd rfl (by first | exact .inl rfl | exact .inr rfl))))))))
      (hss_one (hs_ret (he_move (pv 3)))))))))
theorem kb__law_powers_2_ : KB K Fx.fd__law_powers ["p", "q"] [] 2 0 [0, 1] := KB.of Fx.F__law_powers (fun _ _ _ _ _ _ us ws h0 h1 => match us, ws, h0, h1 with | [_, _], [], _, _ => rfl) (by decide)
def b__law_powers : En → Out :=
  (sSeq (sAsg (dC (.int 1)) (tName 2))
  (sSeq (sFor (iOps (vCons (vT (dC (.int 2))) (vCons (vS 0) vNil)) gR2) (tName 3) (sSeq (sAsg (dCallF d__law_to [0, 1, 2] (cCons (gName 3) (cCons (gVal (dBin fDiv (vT (dBin fSub (vS 0) (vT (dC (.int 1))))) (vS 1))) (cCons (gName 0) cNil)))) (tName 2))
  (sIf (dTst (dBin fNe (vS 2) (vT (dC (.int 1))))) (fun e => .bk e) sNext)))
  (sSeq (sAsg (dLst (aCons (dC (.int 1)) aNil)) (tName 4))
  (sSeq (sFor (iOps (vCons (vT (dBin fSub (vS 1) (vT (dC (.int 1))))) vNil) gR1) (tName 5) (sExpr (dMut 4 fAppend (aCons (dBin fMod (vT (dCall (on1 fInt) (vCons (vT (dBin fMul (vT (dBin fIx (vS 4) (vS 5))) (vS 2))) vNil))) (vS 0)) aNil))))
  (sRet (dMove 4))))))
def d__law_powers : Den := denFn [true, true] 6 b__law_powers
theorem ok__law_powers : FnOk P w K mg base (L2.CX P w) 2 Fx.a__law_powers Fx.fd__law_powers ["p", "q"] (spD ⟨K, Fx.cl.f, none⟩ 2 d__law_powers) := by
  refine fn_ok (cl := Fx.cl) (k := 1) rfl Fx.F__law_powers sc__law_powers rfl (by decide) fun cdv A outer s H E hr => ?_
  exact (show HSs _ _ _ _ b__law_powers from (hss_cons (hs_asg (ss := [2]) he_int (hg_name (pg_name (i := 2) sc__law_powers.nd rfl (by first | exact .inl rfl | exact .inr rfl))))
      (hss_cons (hs_for (ss := [3]) (passes_of rfl) rfl (hi_range2 (by rfl) Fx.z_range (hvs_cons (hv_of he_int) (hvs_cons (hv_name (pv 0)) hvs_nil))) (hg_name (pg_name (i := 3) sc__law_powers.nd rfl (by first | exact .inl rfl | exact .inr rfl))) (hss_cons (hs_asg (ss := [2]) (he_fn (ok__law_to Fx) (hr.mono (by first | decide | omega)) (takes_of rfl rfl rfl rfl) (by rfl) Fx.g__law_to Fx.F__law_to.kp (kb__law_to_3_ Fx) (hc_cons (ga_name (pv 3)) (hc_cons (ga_val (he_fdiv (hv_of (he_sub (hv_name (pv 0)) (hv_of he_int))) (hv_name (pv 1)))) (hc_cons (ga_name (pv 0)) hc_nil)))) (hg_name (pg_name (i := 2) sc__law_powers.nd rfl (by first | exact .inl rfl | exact .inr rfl))))
      (hss_one (hs_if (ht_cmp (f := fNe) (OpR.or op_ne (op_neD hr.units)) bNe (hv_name (pv 2)) (hv_of he_int) (nomark _)) (hss_one hs_break) hss_nil))))
      (hss_cons (hs_asg (ss := [4]) (he_lst (ha_cons he_int ha_nil)) (hg_name (pg_name (i := 4) sc__law_powers.nd rfl (by first | exact .inl rfl | exact .inr rfl))))
      (hss_cons (hs_for (ss := [5]) (passes_of rfl) rfl (hi_range1 (by rfl) Fx.z_range (hvs_cons (hv_of (he_sub (hv_name (pv 1)) (hv_of he_int))) hvs_nil)) (hg_name (pg_name (i := 5) sc__law_powers.nd rfl (by first | exact .inl rfl | exact .inr rfl))) (hss_one (hs_expr (he_mut (id := "list.append") mAppend (pe_bm PySem.F.plainAttrs_list PySem.F.slot_list_append PySem.F.type_list_append mt_append (pv 4) (ha_cons (he_mod (hv_of (he_callTy (f := (on1 fInt)) call_int1 cInt (by rfl) Fx.z_int rfl (hvs_cons (hv_of (he_mul (hv_of (he_sbs (hu_of hr) (hv_name (pv 4)) (hv_name (pv 5)) (fun _ _ => rfl))) (hv_name (pv 2)))) hvs_nil))) (hv_name (pv 0))) ha_nil))))))
      (hss_one (hs_ret (he_move (pv 4)))))))))
theorem kb__law_members_2_ : KB K Fx.fd__law_members ["p", "q"] [] 2 0 [0, 1] := KB.of Fx.F__law_members (fun _ _ _ _ _ _ us ws h0 h1 => match us, ws, h0, h1 with | [_, _], [], _, _ => rfl) (by decide)
def b__law_members : En → Out :=
  (sRet (dCall (on1 fTuple) (vCons (vT (dLc (iOps (vCons (vT (dC (.int 1))) (vCons (vS 0) vNil)) gR2) [2] (tName 2) (dTst (dBin fEq (vT (dCallF d__law_to [0, 1, 2] (cCons (gName 2) (cCons (gName 1) (cCons (gName 0) cNil))))) (vT (dC (.int 1))))) (dVar 2))) vNil)))
def d__law_members : Den := denFn [true, true] 3 b__law_members
theorem ok__law_members : FnOk P w K mg base (L2.CX P w) 2 Fx.a__law_members Fx.fd__law_members ["p", "q"] (spD ⟨K, Fx.cl.f, none⟩ 2 d__law_members) := by
  refine fn_ok (cl := Fx.cl) (k := 1) rfl Fx.F__law_members sc__law_members rfl (by decide) fun cdv A outer s H E hr => ?_
  exact (show HSs _ _ _ _ b__law_members from (hss_one (hs_ret (he_callTy (f := (on1 fTuple)) call_tupleN cTuple (by rfl) Fx.z_tuple rfl (hvs_cons (hv_of (he_lc (own := [("x", 2)]) (di := (iOps (vCons (vT (dC (.int 1))) (vCons (vS 0) vNil)) gR2)) (t := (tName 2)) (dc := (dTst (dBin fEq (vT (dCallF d__law_to [0, 1, 2] (cCons (gName 2) (cCons (gName 1) (cCons (gName 0) cNil))))) (vT (dC (.int 1)))))) (de := (dVar 2)) (pe_lc rfl sc__law_members.nd (hi_range2 (by rfl) Fx.z_range (hvs_cons (hv_of he_int) (hvs_cons (hv_name (pv 0)) hvs_nil))) (blkOk_by (own := [("x", 2)]) (N := sN__law_members) (sc := defScope s__law_members) (by decide +kernel)) (fun _ _ _ _ _ => (hg_name (pg_name (i := 2) sc__law_members.nd rfl (by first | exact .inl rfl | exact .inr rfl)))) (fun _ _ _ _ _ => (hts_one (ht_cmp (f := fEq) (OpR.or op_eq (op_eqD hr.units)) bEq (hv_of (he_fn (ok__law_to Fx) (hr.mono (by first | decide | omega)) takes0 (by rfl) Fx.g__law_to Fx.F__law_to.kp (kb__law_to_3_ Fx) (hc_cons (ga_name (pv 2)) (hc_cons (ga_name (pv 1)) (hc_cons (ga_name (pv 0)) hc_nil))))) (hv_of he_int) (nomark _)))) (fun _ _ _ _ _ => (he_var (pv 2)))))) hvs_nil)))))
theorem kb_Group_power_3_ : KB K Fx.fd_Group_power ["self", "element", "exponent"] [] 3 0 [0, 1, 2] := KB.of Fx.F_Group_power (fun _ _ _ _ _ _ us ws h0 h1 => match us, ws, h0, h1 with | [_, _, _], [], _, _ => rfl) (by decide)
def b_Group_power : En → Out :=
  (sRet (dBin fIx (vT (dUn (fFld cs_ "_powers") (vS 0))) (vT (dBin fMod (vT (dBin fMul (vT (dBin fIx (vT (dUn (fFld cs_ "_exponents") (vS 0))) (vS 1))) (vS 2))) (vT (dUn (fFld cs_ "order") (vS 0)))))))
def d_Group_power : Den := denFn [true, true, true] 3 b_Group_power
theorem ok_Group_power : FnOk P w K mg base (L2.CX P w) 1 Fx.a_Group_power Fx.fd_Group_power ["self", "element", "exponent"] (spD ⟨K, Fx.cl.f, none⟩ 3 d_Group_power) := by
  refine fn_ok (cl := Fx.cl) (k := 0) rfl Fx.F_Group_power sc_Group_power rfl (by decide) fun cdv A outer s H E hr => ?_
  exact (show HSs _ _ _ _ b_Group_power from (hss_one (hs_ret (he_sbs (hu_of hr) (hv_of (he_fld (cs := cs_) (f := "_powers") (Fx.fld__powers) (hv_name (pv 0)))) (hv_of (he_mod (hv_of (he_mul (hv_of (he_sbs (hu_of hr) (hv_of (he_fld (cs := cs_) (f := "_exponents") (Fx.fld__exponents) (hv_name (pv 0)))) (hv_name (pv 1)) (fun _ _ => rfl))) (hv_name (pv 2)))) (hv_of (he_fld (cs := cs_) (f := "order") (Fx.fld_order) (hv_name (pv 0)))))) (fun _ _ => rfl)))))
theorem kb_Group_inverse_of_2_ : KB K Fx.fd_Group_inverse_of ["self", "element"] [] 2 0 [0, 1] := KB.of Fx.F_Group_inverse_of (fun _ _ _ _ _ _ us ws h0 h1 => match us, ws, h0, h1 with | [_, _], [], _, _ => rfl) (by decide)
theorem kb_Group_inverse_of_1_element : KB K Fx.fd_Group_inverse_of ["self", "element"] ["element"] 1 1 [0, 1] := KB.of Fx.F_Group_inverse_of (fun _ _ _ _ _ _ us ws h0 h1 => match us, ws, h0, h1 with | [_], [_], _, _ => rfl) (by decide)
def tab_power (c : String) : Option Den := match c with
  | "PowerGroup" => some d_Group_power
  | _ => none
theorem mt_power_2_ (A : Around) (hr : Room 1 A) : ∀ c den C, tab_power c = some den → Fx.cl.f c = some C → ∃ (f : Addr) (fd : FuncData) (ps : List Str) (k : Nat), Cls K C ∧ Meth K C "power" f ∧ FnOk P w K mg base (L2.CX P w) k f fd ps (spD ⟨K, Fx.cl.f, none⟩ (2 + 0 + 1) den) ∧ Room k A ∧ KB K fd ps [] (2 + 1) 0 [0, 1, 2] := by
  intro c den C ht hC
  unfold tab_power at ht
  split at ht
  · cases ht; cases hC; exact ⟨_, _, _, 1, Fx.cls_PowerGroup, Fx.mt_PowerGroup_power, ok_Group_power Fx, hr.mono (by decide), kb_Group_power_3_ Fx⟩
  · cases ht
def b_Group_inverse_of : En → Out :=
  (sRet (dMth "power" tab_power [0, 1, 2] (gName 0) (cCons (gName 1) (cCons (gVal (dUn fNeg (vT (dC (.int 1))))) cNil))))
def d_Group_inverse_of : Den := denFn [true, true] 2 b_Group_inverse_of
theorem ok_Group_inverse_of : FnOk P w K mg base (L2.CX P w) 2 Fx.a_Group_inverse_of Fx.fd_Group_inverse_of ["self", "element"] (spD ⟨K, Fx.cl.f, none⟩ 2 d_Group_inverse_of) := by
  refine fn_ok (cl := Fx.cl) (k := 1) rfl Fx.F_Group_inverse_of sc_Group_inverse_of rfl (by decide) fun cdv A outer s H E hr => ?_
  exact (show HSs _ _ _ _ b_Group_inverse_of from (hss_one (hs_ret (he_mth (n0 := 2) (p := [0, 1, 2]) (by decide) ⟨mt_power_2_ Fx _ (hr.mono (by first | decide | omega))⟩ (takes_of rfl rfl rfl rfl) (ga_name (pv 0)) (hc_cons (ga_name (pv 1)) (hc_cons (ga_val (he_un un_neg uNeg (hv_of he_int))) hc_nil))))))
theorem kb_Group_has_2_ : KB K Fx.fd_Group_has ["self", "value"] [] 2 0 [0, 1] := KB.of Fx.F_Group_has (fun _ _ _ _ _ _ us ws h0 h1 => match us, ws, h0, h1 with | [_, _], [], _, _ => rfl) (by decide)
theorem kb_Group_has_1_value : KB K Fx.fd_Group_has ["self", "value"] ["value"] 1 1 [0, 1] := KB.of Fx.F_Group_has (fun _ _ _ _ _ _ us ws h0 h1 => match us, ws, h0, h1 with | [_], [_], _, _ => rfl) (by decide)
def tab_inverse_of (c : String) : Option Den := match c with
  | "PowerGroup" => some d_Group_inverse_of
  | _ => none
theorem mt_inverse_of_1_ (A : Around) (hr : Room 2 A) : ∀ c den C, tab_inverse_of c = some den → Fx.cl.f c = some C → ∃ (f : Addr) (fd : FuncData) (ps : List Str) (k : Nat), Cls K C ∧ Meth K C "inverse_of" f ∧ FnOk P w K mg base (L2.CX P w) k f fd ps (spD ⟨K, Fx.cl.f, none⟩ (1 + 0 + 1) den) ∧ Room k A ∧ KB K fd ps [] (1 + 1) 0 [0, 1] := by
  intro c den C ht hC
  unfold tab_inverse_of at ht
  split at ht
  · cases ht; cases hC; exact ⟨_, _, _, 2, Fx.cls_PowerGroup, Fx.mt_PowerGroup_inverse_of, ok_Group_inverse_of Fx, hr.mono (by decide), kb_Group_inverse_of_2_ Fx⟩
  · cases ht
theorem mt_inverse_of_0_element (A : Around) (hr : Room 2 A) : ∀ c den C, tab_inverse_of c = some den → Fx.cl.f c = some C → ∃ (f : Addr) (fd : FuncData) (ps : List Str) (k : Nat), Cls K C ∧ Meth K C "inverse_of" f ∧ FnOk P w K mg base (L2.CX P w) k f fd ps (spD ⟨K, Fx.cl.f, none⟩ (0 + 1 + 1) den) ∧ Room k A ∧ KB K fd ps ["element"] (0 + 1) 1 [0, 1] := by
  intro c den C ht hC
  unfold tab_inverse_of at ht
  split at ht
  · cases ht; cases hC; exact ⟨_, _, _, 2, Fx.cls_PowerGroup, Fx.mt_PowerGroup_inverse_of, ok_Group_inverse_of Fx, hr.mono (by decide), kb_Group_inverse_of_1_element Fx⟩
  · cases ht
def b_Group_has : En → Out :=
  (sRet (dAndV (dCall (on2 fIsi) (vCons (vS 1) (vCons (vT (dC (.ty "int"))) vNil))) (dBin fInU (vS 1) (vT (dUn (fFld cs_ "_exponents") (vS 0))))))
def d_Group_has : Den := denFn [true, true] 2 b_Group_has
theorem ok_Group_has : FnOk P w K mg base (L2.CX P w) 1 Fx.a_Group_has Fx.fd_Group_has ["self", "value"] (spD ⟨K, Fx.cl.f, none⟩ 2 d_Group_has) := by
  refine fn_ok (cl := Fx.cl) (k := 0) rfl Fx.F_Group_has sc_Group_has rfl (by decide) fun cdv A outer s H E hr => ?_
  exact (show HSs _ _ _ _ b_Group_has from (hss_one (hs_ret (he_and (he_callB (f := on2 fIsi) call_isi cIsi (by rfl) Fx.z_isinstance rfl (hvs_cons (hv_name (pv 1)) (hvs_cons (hv_of (he_ty (by rfl) Fx.z_int rfl)) hvs_nil))) (he_one (he_cmp (f := fInU) (OpR.or op_in_seq (op_in_dk (hu_of hr))) (BinOk.or bIn bDin) (hv_name (pv 1)) (hv_of (he_fld (cs := cs_) (f := "_exponents") (Fx.fld__exponents) (hv_name (pv 0)))) (by rfl)))))))
theorem kb_is_prime_1_ : KB K Fx.fd_is_prime ["n"] [] 1 0 [0] := KB.of Fx.F_is_prime (fun _ _ _ _ _ _ us ws h0 h1 => match us, ws, h0, h1 with | [_], [], _, _ => rfl) (by decide)
def tab_has (c : String) : Option Den := match c with
  | "PowerGroup" => some d_Group_has
  | _ => none
theorem mt_has_1_ (A : Around) (hr : Room 1 A) : ∀ c den C, tab_has c = some den → Fx.cl.f c = some C → ∃ (f : Addr) (fd : FuncData) (ps : List Str) (k : Nat), Cls K C ∧ Meth K C "has" f ∧ FnOk P w K mg base (L2.CX P w) k f fd ps (spD ⟨K, Fx.cl.f, none⟩ (1 + 0 + 1) den) ∧ Room k A ∧ KB K fd ps [] (1 + 1) 0 [0, 1] := by
  intro c den C ht hC
  unfold tab_has at ht
  split at ht
  · cases ht; cases hC; exact ⟨_, _, _, 1, Fx.cls_PowerGroup, Fx.mt_PowerGroup_has, ok_Group_has Fx, hr.mono (by decide), kb_Group_has_2_ Fx⟩
  · cases ht
theorem mt_has_0_value (A : Around) (hr : Room 1 A) : ∀ c den C, tab_has c = some den → Fx.cl.f c = some C → ∃ (f : Addr) (fd : FuncData) (ps : List Str) (k : Nat), Cls K C ∧ Meth K C "has" f ∧ FnOk P w K mg base (L2.CX P w) k f fd ps (spD ⟨K, Fx.cl.f, none⟩ (0 + 1 + 1) den) ∧ Room k A ∧ KB K fd ps ["value"] (0 + 1) 1 [0, 1] := by
  intro c den C ht hC
  unfold tab_has at ht
  split at ht
  · cases ht; cases hC; exact ⟨_, _, _, 1, Fx.cls_PowerGroup, Fx.mt_PowerGroup_has, ok_Group_has Fx, hr.mono (by decide), kb_Group_has_1_value Fx⟩
  · cases ht
def fu_is_prime : En → Nat := fun _ => 100000
def b_is_prime : En → Out :=
  (sSeq (sIf (dTst (dBin fLt (vS 0) (vT (dC (.int 2))))) (sRet (dC (.bl false))) sNext)
  (sSeq (sAsg (dC (.int 2)) (tName 1))
  (sSeq (sWhileF fu_is_prime (dTst (dBin fLe (vT (dBin fMul (vS 1) (vS 1))) (vS 0))) (sSeq (sIf (dTst (dBin fEq (vT (dBin fMod (vS 0) (vS 1))) (vT (dC (.int 0))))) (sRet (dC (.bl false))) sNext)
  (sAug 1 fAddI (vT (dC (.int 1))))))
  (sRet (dC (.bl true))))))
def d_is_prime : Den := denFn [true] 2 b_is_prime
theorem ok_is_prime : FnOk P w K mg base (L2.CX P w) 1 Fx.a_is_prime Fx.fd_is_prime ["n"] (spD ⟨K, Fx.cl.f, none⟩ 1 d_is_prime) := by
  refine fn_ok (cl := Fx.cl) (k := 0) rfl Fx.F_is_prime sc_is_prime rfl (by decide) fun cdv A outer s H E hr => ?_
  exact (show HSs _ _ _ _ b_is_prime from (hss_cons (hs_if (ht_cmp (f := fLt) op_lt bLt (hv_name (pv 0)) (hv_of he_int) (nomark _)) (hss_one (hs_ret he_bl)) hss_nil)
      (hss_cons (hs_asg (ss := [1]) he_int (hg_name (pg_name (i := 1) sc_is_prime.nd rfl (by first | exact .inl rfl | exact .inr rfl))))
      (hss_cons (hs_while fu_is_prime (passes_of rfl) (ht_cmp (f := fLe) op_le bLe (hv_of (he_mul (hv_name (pv 1)) (hv_name (pv 1)))) (hv_name (pv 0)) (nomark _)) (hss_cons (hs_if (ht_cmp (f := fEq) (OpR.or op_eq (op_eqD hr.units)) bEq (hv_of (he_mod (hv_name (pv 0)) (hv_name (pv 1)))) (hv_of he_int) (nomark _)) (hss_one (hs_ret he_bl)) hss_nil)
      (hss_one (hs_aug (i := 1) bAddI (ps_aug sc_is_prime.nd rfl (by first | exact .inl rfl | exact .inr rfl) (hv_of he_int) ip_add)))))
      (hss_one (hs_ret he_bl))))))
theorem kb__member_of_order_2_ : KB K Fx.fd__member_of_order ["modulus", "order"] [] 2 0 [0, 1] := KB.of Fx.F__member_of_order (fun _ _ _ _ _ _ us ws h0 h1 => match us, ws, h0, h1 with | [_, _], [], _, _ => rfl) (by decide)
def fu__member_of_order : En → Nat := fun _ => 100000
def b__member_of_order : En → Out :=
  (sSeq (sAsg (dC (.int 1)) (tName 2))
  (sSeq (sAsg (dC (.int 1)) (tName 3))
  (sSeq (sWhileF fu__member_of_order (dTst (dBin fEq (vS 2) (vT (dC (.int 1))))) (sSeq (sAug 3 fAddI (vT (dC (.int 1))))
  (sFor (iOps (vCons (vT (dBin fDiv (vT (dBin fSub (vS 0) (vT (dC (.int 1))))) (vS 1))) vNil) gR1) (tName 4) (sAsg (dBin fMod (vT (dBin fMul (vS 2) (vS 3))) (vS 0)) (tName 2)))))
  (sRet (dMove 2)))))
def d__member_of_order : Den := denFn [true, true] 5 b__member_of_order
theorem ok__member_of_order : FnOk P w K mg base (L2.CX P w) 1 Fx.a__member_of_order Fx.fd__member_of_order ["modulus", "order"] (spD ⟨K, Fx.cl.f, none⟩ 2 d__member_of_order) := by
  refine fn_ok (cl := Fx.cl) (k := 0) rfl Fx.F__member_of_order sc__member_of_order rfl (by decide) fun cdv A outer s H E hr => ?_
  exact (show HSs _ _ _ _ b__member_of_order from (hss_cons (hs_asg (ss := [2]) he_int (hg_name (pg_name (i := 2) sc__member_of_order.nd rfl (by first | exact .inl rfl | exact .inr rfl))))
      (hss_cons (hs_asg (ss := [3]) he_int (hg_name (pg_name (i := 3) sc__member_of_order.nd rfl (by first | exact .inl rfl | exact .inr rfl))))
      (hss_cons (hs_while fu__member_of_order (passes_of rfl) (ht_cmp (f := fEq) (OpR.or op_eq (op_eqD hr.units)) bEq (hv_name (pv 2)) (hv_of he_int) (nomark _)) (hss_cons (hs_aug (i := 3) bAddI (ps_aug sc__member_of_order.nd rfl (by first | exact .inl rfl | exact .inr rfl) (hv_of he_int) ip_add))
      (hss_one (hs_for (ss := [4]) (passes_of rfl) rfl (hi_range1 (by rfl) Fx.z_range (hvs_cons (hv_of (he_fdiv (hv_of (he_sub (hv_name (pv 0)) (hv_of he_int))) (hv_name (pv 1)))) hvs_nil)) (hg_name (pg_name (i := 4) sc__member_of_order.nd rfl (by first | exact .inl rfl | exact .inr rfl))) (hss_one (hs_asg (ss := [2]) (he_mod (hv_of (he_mul (hv_name (pv 2)) (hv_name (pv 3)))) (hv_name (pv 0))) (hg_name (pg_name (i := 2) sc__member_of_order.nd rfl (by first | exact .inl rfl | exact .inr rfl)))))))))
      (hss_one (hs_ret (he_move (pv 2))))))))
theorem kb_Group___init___2_ : KB K Fx.fd_Group___init__ ["self", "powers"] [] 2 0 [0, 1] := KB.of Fx.F_Group___init__ (fun _ _ _ _ _ _ us ws h0 h1 => match us, ws, h0, h1 with | [_, _], [], _, _ => rfl) (by decide)
def b_Group___init__ : En → Out :=
  (sSeq (sFst cs_ 0 "order" (dCall fLenU (vCons (vS 1) vNil)))
  (sSeq (sFst cs_ 0 "unit" (dBin fIx (vS 1) (vT (dC (.int 0)))))
  (sSeq (sFst cs_ 0 "members" (dCall (on1 fTuple) (vCons (vT (dCall (on1 fSorted) (vCons (vS 1) vNil))) vNil)))
  (sSeq (sFst cs_ 0 "_powers" (dVar 1))
  (sFst cs_ 0 "_exponents" (dFz (dDc (iAr (aCons (dVar 1) aNil) gEnum) [2, 3] (tTupl (tgCons (tName 2) (tgCons (tName 3) tgNil))) dYes (dVar 3) (dVar 2))))))))
def d_Group___init__ : Den := denFn [true, true] 4 b_Group___init__
theorem ok_Group___init__ : FnOk P w K mg base (L2.CX P w) 1 Fx.a_Group___init__ Fx.fd_Group___init__ ["self", "powers"] (spD ⟨K, Fx.cl.f, none⟩ 2 d_Group___init__) := by
  refine fn_ok (cl := Fx.cl) (k := 0) rfl Fx.F_Group___init__ sc_Group___init__ rfl (by decide) fun cdv A outer s H E hr => ?_
  exact (show HSs _ _ _ _ b_Group___init__ from (hss_cons (hs_fst (cs := cs_) (i := 0) (f := "order") (Fx.fld_order) (pv 0) (he_callB (f := fLenU) (CallR.or call_len_seq (CallR.or call_len_str call_lenD)) cLenU (by rfl) Fx.z_len rfl (hvs_cons (hv_name (pv 1)) hvs_nil)))
      (hss_cons (hs_fst (cs := cs_) (i := 0) (f := "unit") (Fx.fld_unit) (pv 0) (he_sbs (hu_of hr) (hv_name (pv 1)) (hv_of he_int) (fun _ _ => rfl)))
      (hss_cons (hs_fst (cs := cs_) (i := 0) (f := "members") (Fx.fld_members) (pv 0) (he_callTy (f := (on1 fTuple)) call_tupleN cTuple (by rfl) Fx.z_tuple rfl (hvs_cons (hv_of (he_callB (f := (on1 fSorted)) cr_sortedK cSorted (by rfl) Fx.z_sorted rfl (hvs_cons (hv_name (pv 1)) hvs_nil))) hvs_nil)))
      (hss_cons (hs_fst (cs := cs_) (i := 0) (f := "_powers") (Fx.fld__powers) (pv 0) (he_var (pv 1)))
      (hss_one (hs_fst (cs := cs_) (i := 0) (f := "_exponents") (Fx.fld__exponents) (pv 0) (he_fz (he_dc (own := [("exponent", 2), ("member", 3)]) (di := (iAr (aCons (dVar 1) aNil) gEnum)) (t := (tTupl (tgCons (tName 2) (tgCons (tName 3) tgNil)))) (dc := dYes) (dk := (dVar 3)) (de := (dVar 2)) (pe_dc rfl sc_Group___init__.nd (hi_enum (by rfl) Fx.z_enumerate (ha_cons (he_var (pv 1)) ha_nil)) (blkOk_by (own := [("exponent", 2), ("member", 3)]) (N := sN_Group___init__) (sc := defScope s_Group___init__) (by decide +kernel)) (fun _ _ _ _ _ => (hg_tup rfl (hgs_cons (hg_name (pg_name (i := 2) sc_Group___init__.nd rfl (by first | exact .inl rfl | exact .inr rfl))) (hgs_cons (hg_name (pg_name (i := 3) sc_Group___init__.nd rfl (by first | exact .inl rfl | exact .inr rfl))) hgs_nil)) (hlen := (tg_len (tg_len tg_len0))))) (fun _ _ _ _ _ => hts_nil) (fun _ _ _ _ _ => (he_var (pv 3))) (fun _ _ _ _ _ => (he_var (pv 2)))))))))))))
theorem kb_PowerGroup___init___3_ : KB K Fx.fd_PowerGroup___init__ ["self", "modulus", "order"] [] 3 0 [0, 1, 2] := KB.ofS Fx.F_PowerGroup___init__ (fun _ _ _ _ _ us ws h0 h1 => match us, ws, h0, h1 with | [_, _, _], [], _, _ => rfl) (by decide)
theorem kb_PowerGroup___init___1_order_modulus : KB K Fx.fd_PowerGroup___init__ ["self", "modulus", "order"] ["order", "modulus"] 1 2 [0, 2, 1] := KB.ofS Fx.F_PowerGroup___init__ (fun _ _ _ _ _ us ws h0 h1 => match us, ws, h0, h1 with | [_], [_, _], _, _ => rfl) (by decide)
def fu_PowerGroup___init__ : En → Nat := fun _ => 100000
theorem supx_PowerGroup___init__ (A : Around) (outer : List Env) (s : Shared) (H : Hp) (E : XK) : SupX (NdefX.ncx (L2.CX P w) P w K mg base sN_PowerGroup___init__ (nfS "__init__" "PowerGroup.__init__" s_PowerGroup___init__ Fx.cc_PowerGroup___init__ Fx.ca_PowerGroup___init__) Fx.a_PowerGroup___init__ A outer s H E) Fx.C_PowerGroup "self" 3 := by
  obtain ⟨oc, od, kV, doc, pm, an, ct, osl, hfd, lk, hcd⟩ := Fx.F_PowerGroup___init__.ex
  obtain ⟨cv, cd, vs, cs, file, tf, h1, h2, h3⟩ := Fx.hco_PowerGroup___init__
  refine ⟨by rfl, Fx.z_super, by rfl, .inl (by rfl), rfl, rfl, ⟨Fx.a_PowerGroup___init__, oc, od, Fx.fd_PowerGroup___init__, osl, _, rfl, lk, by rw [hfd]; rfl, rfl⟩, ⟨Fx.ca_PowerGroup___init__, cv, cd, vs, cs, file, tf, rfl, h1, h2, h3⟩, Fx.top_super, Fx.cdt_PowerGroup, Fx.opq⟩
def b_PowerGroup___init__ : En → Out :=
  (sSeq (sIf (dOrT (dTst (dBin fGt (vS 1) (vT (dC (.int 1000))))) (dNotT (dTst (dCallF d_is_prime [0] (cCons (gName 1) cNil))))) (sRaise "BadGroup") sNext)
  (sSeq (sIf (dOrT (dNotT (dTst (dChain fLe fLe (vT (dC (.int 3))) (vS 2) (vT (dC (.int 127)))))) (dOrT (dNotT (dTst (dCallF d_is_prime [0] (cCons (gName 2) cNil)))) (dTst (dBin fNe (vT (dBin fMod (vT (dBin fSub (vS 1) (vT (dC (.int 1))))) (vS 2))) (vT (dC (.int 0))))))) (sRaise "BadGroup") sNext)
  (sSeq (sAsg (dCallF d__member_of_order [0, 1] (cCons (gName 1) (cCons (gName 2) cNil))) (tName 4))
  (sSeq (sAsg (dLst (aCons (dC (.int 1)) aNil)) (tName 5))
  (sSeq (sWhileF fu_PowerGroup___init__ (dTst (dBin fLt (vT (dCall fLenU (vCons (vS 5) vNil))) (vS 2))) (sExpr (dMut 5 fAppend (aCons (dBin fMod (vT (dBin fMul (vT (dBin fIx (vS 5) (vT (dUn fNeg (vT (dC (.int 1))))))) (vS 4))) (vS 1)) aNil))))
  (sSeq (sExpr (dSup 3 "PowerGroup" (dCallF d_Group___init__ [0, 1] (cCons (gSlf cs_ 0) (cCons (gVal (dCall (on1 fTuple) (vCons (vS 5) vNil))) cNil)))))
  (sFst cs_ 0 "modulus" (dVar 1))))))))
def d_PowerGroup___init__ : Den := denFnS [true, true, true] 6 "PowerGroup" b_PowerGroup___init__
theorem ok_PowerGroup___init__ : FnOk P w K mg base (L2.CX P w) 3 Fx.a_PowerGroup___init__ Fx.fd_PowerGroup___init__ ["self", "modulus", "order"] (spD ⟨K, Fx.cl.f, none⟩ 3 d_PowerGroup___init__) := by
  refine fnS_ok (cl := Fx.cl) (k := 2) rfl Fx.F_PowerGroup___init__ Fx.hce_PowerGroup___init__ rfl sc_PowerGroup___init__ rfl fun A outer s H E hr => ?_
  exact (show HSsA _ _ _ _ b_PowerGroup___init__ from (hsA_cons (hs_if (ht_w (hw_or (ht_cmp (f := fGt) op_gt bGt (hv_name (pv 1)) (hv_of he_int) (nomark _)) (hw_or1 (ht_not (ht_val (he_fn (ok_is_prime Fx) (hr.mono (by first | decide | omega)) (takes_of rfl rfl rfl rfl) (by rfl) Fx.g_is_prime Fx.F_is_prime.kp (kb_is_prime_1_ Fx) (hc_cons (ga_name (pv 1)) hc_nil))))))) (hss_one (hs_raise (c := "BadGroup") rfl (takes_of rfl rfl rfl rfl) (pmk_own0 PySem.F.excBase_ValueError Fx.q_BadGroup Fx.gc_BadGroup Fx.k_BadGroup (raises_own Fx.b_BadGroup Fx.t_BadGroup) (by rfl)) Fx.cl_BadGroup)) hss_nil)
      (hsA_cons (hs_if (ht_w (hw_or (ht_not (ht_chain op_le op_le bLe bLe (pt_chain op_le op_le (hv_of he_int) (hv_name (pv 2)) (hv_of he_int)))) (hw_or (ht_not (ht_val (he_fn (ok_is_prime Fx) (hr.mono (by first | decide | omega)) (takes_of rfl rfl rfl rfl) (by rfl) Fx.g_is_prime Fx.F_is_prime.kp (kb_is_prime_1_ Fx) (hc_cons (ga_name (pv 2)) hc_nil)))) (hw_or1 (ht_cmp (f := fNe) (OpR.or op_ne (op_neD hr.units)) bNe (hv_of (he_mod (hv_of (he_sub (hv_name (pv 1)) (hv_of he_int))) (hv_name (pv 2)))) (hv_of he_int) (nomark _)))))) (hss_one (hs_raise (c := "BadGroup") rfl (takes_of rfl rfl rfl rfl) (pmk_own0 PySem.F.excBase_ValueError Fx.q_BadGroup Fx.gc_BadGroup Fx.k_BadGroup (raises_own Fx.b_BadGroup Fx.t_BadGroup) (by rfl)) Fx.cl_BadGroup)) hss_nil)
      (hsA_cons (hs_asg (ss := [4]) (he_fn (ok__member_of_order Fx) (hr.mono (by first | decide | omega)) (takes_of rfl rfl rfl rfl) (by rfl) Fx.g__member_of_order Fx.F__member_of_order.kp (kb__member_of_order_2_ Fx) (hc_cons (ga_name (pv 1)) (hc_cons (ga_name (pv 2)) hc_nil))) (hg_name (pg_name (i := 4) sc_PowerGroup___init__.nd rfl (by first | exact .inl rfl | exact .inr rfl))))
      (hsA_cons (hs_asg (ss := [5]) (he_lst (ha_cons he_int ha_nil)) (hg_name (pg_name (i := 5) sc_PowerGroup___init__.nd rfl (by first | exact .inl rfl | exact .inr rfl))))
      (hsA_cons (hs_while fu_PowerGroup___init__ (passes_of rfl) (ht_cmp (f := fLt) op_lt bLt (hv_of (he_callB (f := fLenU) (CallR.or call_len_seq (CallR.or call_len_str call_lenD)) cLenU (by rfl) Fx.z_len rfl (hvs_cons (hv_name (pv 5)) hvs_nil))) (hv_name (pv 2)) (nomark _)) (hss_one (hs_expr (he_mut (id := "list.append") mAppend (pe_bm PySem.F.plainAttrs_list PySem.F.slot_list_append PySem.F.type_list_append mt_append (pv 5) (ha_cons (he_mod (hv_of (he_mul (hv_of (he_sbs (hu_of hr) (hv_name (pv 5)) (hv_of (he_un un_neg uNeg (hv_of he_int))) (fun _ _ => rfl))) (hv_name (pv 4)))) (hv_name (pv 1))) ha_nil))))))
      (hsA_super (cn := "PowerGroup") (cs := cs_) (p := [0, 1]) (supx_PowerGroup___init__ Fx _ _ _ _ _) rfl (Fx.sup_PowerGroup___init__) (ok_Group___init__ Fx) (hr.mono (by first | decide | omega)) (takes_of rfl rfl rfl rfl) (kb_Group___init___2_ Fx) (hc_cons (ga_val (he_callTy (f := (on1 fTuple)) call_tupleN cTuple (by rfl) Fx.z_tuple rfl (hvs_cons (hv_name (pv 5)) hvs_nil))) hc_nil)
      (hsA_of (hss_one (hs_fst (cs := cs_) (i := 0) (f := "modulus") (Fx.fld_modulus) (pv 0) (he_var (pv 1))))))))))))
theorem kb_PowerGroup_multiply_1_second_first : KB K Fx.fd_PowerGroup_multiply ["self", "first", "second"] ["second", "first"] 1 2 [0, 2, 1] := KB.of Fx.F_PowerGroup_multiply (fun _ _ _ _ _ _ us ws h0 h1 => match us, ws, h0, h1 with | [_], [_, _], _, _ => rfl) (by decide)
theorem kb_PowerGroup_multiply_3_ : KB K Fx.fd_PowerGroup_multiply ["self", "first", "second"] [] 3 0 [0, 1, 2] := KB.of Fx.F_PowerGroup_multiply (fun _ _ _ _ _ _ us ws h0 h1 => match us, ws, h0, h1 with | [_, _, _], [], _, _ => rfl) (by decide)
def b_PowerGroup_multiply : En → Out :=
  (sRet (dBin fMod (vT (dBin fMul (vS 1) (vS 2))) (vT (dUn (fFld cs_ "modulus") (vS 0)))))
def d_PowerGroup_multiply : Den := denFn [true, true, true] 3 b_PowerGroup_multiply
theorem ok_PowerGroup_multiply : FnOk P w K mg base (L2.CX P w) 1 Fx.a_PowerGroup_multiply Fx.fd_PowerGroup_multiply ["self", "first", "second"] (spD ⟨K, Fx.cl.f, none⟩ 3 d_PowerGroup_multiply) := by
  refine fn_ok (cl := Fx.cl) (k := 0) rfl Fx.F_PowerGroup_multiply sc_PowerGroup_multiply rfl (by decide) fun cdv A outer s H E hr => ?_
  exact (show HSs _ _ _ _ b_PowerGroup_multiply from (hss_one (hs_ret (he_mod (hv_of (he_mul (hv_name (pv 1)) (hv_name (pv 2)))) (hv_of (he_fld (cs := cs_) (f := "modulus") (Fx.fld_modulus) (hv_name (pv 0))))))))
theorem kb__law_right_2_ : KB K Fx.fd__law_right ["box", "q"] [] 2 0 [0, 1] := KB.of Fx.F__law_right (fun _ _ _ _ _ _ us ws h0 h1 => match us, ws, h0, h1 with | [_, _], [], _, _ => rfl) (by decide)
def tab_multiply (c : String) : Option Den := match c with
  | "PowerGroup" => some d_PowerGroup_multiply
  | _ => none
theorem mt_multiply_0_second_first (A : Around) (hr : Room 1 A) : ∀ c den C, tab_multiply c = some den → Fx.cl.f c = some C → ∃ (f : Addr) (fd : FuncData) (ps : List Str) (k : Nat), Cls K C ∧ Meth K C "multiply" f ∧ FnOk P w K mg base (L2.CX P w) k f fd ps (spD ⟨K, Fx.cl.f, none⟩ (0 + 2 + 1) den) ∧ Room k A ∧ KB K fd ps ["second", "first"] (0 + 1) 2 [0, 2, 1] := by
  intro c den C ht hC
  unfold tab_multiply at ht
  split at ht
  · cases ht; cases hC; exact ⟨_, _, _, 1, Fx.cls_PowerGroup, Fx.mt_PowerGroup_multiply, ok_PowerGroup_multiply Fx, hr.mono (by decide), kb_PowerGroup_multiply_1_second_first Fx⟩
  · cases ht
theorem mt_multiply_2_ (A : Around) (hr : Room 1 A) : ∀ c den C, tab_multiply c = some den → Fx.cl.f c = some C → ∃ (f : Addr) (fd : FuncData) (ps : List Str) (k : Nat), Cls K C ∧ Meth K C "multiply" f ∧ FnOk P w K mg base (L2.CX P w) k f fd ps (spD ⟨K, Fx.cl.f, none⟩ (2 + 0 + 1) den) ∧ Room k A ∧ KB K fd ps [] (2 + 1) 0 [0, 1, 2] := by
  intro c den C ht hC
  unfold tab_multiply at ht
  split at ht
  · cases ht; cases hC; exact ⟨_, _, _, 1, Fx.cls_PowerGroup, Fx.mt_PowerGroup_multiply, ok_PowerGroup_multiply Fx, hr.mono (by decide), kb_PowerGroup_multiply_3_ Fx⟩
  · cases ht
def b__law_right : En → Out :=
  (sSeq (sAsg (dCallF d__law_modulus [0, 1] (cCons (gName 0) (cCons (gName 1) cNil))) (tName 2))
  (sSeq (sIf (dTst (dBin fEq (vS 2) (vT (dC (.int 0))))) (sSeq (sAsg (dC (.int 7)) (tName 2))
  (sAsg (dC (.int 3)) (tName 1))) sNext)
  (sSeq (sAsg (dFz (dMake "PowerGroup" d_PowerGroup___init__ [1, 2] (cCons (gName 2) (cCons (gName 1) cNil)))) (tName 3))
  (sSeq (sAsg (dFz (dMake "PowerGroup" d_PowerGroup___init__ [2, 1] (cCons (gName 1) (cCons (gName 2) cNil)))) (tName 4))
  (sSeq (sAsg (dCallF d__law_powers [0, 1] (cCons (gName 2) (cCons (gName 1) cNil))) (tName 5))
  (sSeq (sIf (dNotT (dTst (dCallF (d__law_alike 8) [0, 1] (cCons (gVal (dTup (aCons (dUn (fFld cs_ "modulus") (vS 4)) (aCons (dUn (fFld cs_ "order") (vS 4)) (aCons (dUn (fFld cs_ "members") (vS 4)) aNil))))) (cCons (gVal (dTup (aCons (dVar 2) (aCons (dVar 1) (aCons (dUn (fFld cs_ "members") (vS 3)) aNil))))) cNil))))) (sRet (dC (.bl false))) sNext)
  (sSeq (sIf (dOrT (dNotT (dTst (dCall (on2 (fIsC sub_i)) (vCons (vS 3) (vCons (vT (dC (.cls "Group"))) vNil))))) (dNotT (dTst (dCallF (d__law_alike 8) [0, 1] (cCons (gVal (dTup (aCons (dUn (fFld cs_ "modulus") (vS 3)) (aCons (dUn (fFld cs_ "order") (vS 3)) (aCons (dUn (fFld cs_ "unit") (vS 3)) aNil))))) (cCons (gVal (dTup (aCons (dVar 2) (aCons (dVar 1) (aCons (dC (.int 1)) aNil))))) cNil)))))) (sRet (dC (.bl false))) sNext)
  (sSeq (sAsg (dCallF d__law_members [0, 1] (cCons (gName 2) (cCons (gName 1) cNil))) (tName 6))
  (sSeq (sIf (dOrT (dNotT (dTst (dCallF (d__law_alike 8) [0, 1] (cCons (gVal (dUn (fFld cs_ "members") (vS 3))) (cCons (gName 6) cNil))))) (dOrT (dTst (dBin fNe (vT (dCall fLenU (vCons (vS 6) vNil))) (vS 1))) (dNotT (dTst (dCall (on1 fAll) (vCons (vT (dLc (iAny (dVar 6)) [14] (tName 14) dYes (dBin fInU (vS 14) (vS 5)))) vNil)))))) (sRet (dC (.bl false))) sNext)
  (sSeq (sFor (iOps (vCons (vT (dC (.int 12))) vNil) gR1) (tName 7) (sSeq (sAsg (dBin fIx (vS 6) (vT (dCallF d__law_draw [0, 1] (cCons (gName 0) (cCons (gName 1) cNil))))) (tName 8))
  (sSeq (sAsg (dBin fIx (vS 6) (vT (dCallF d__law_draw [0, 1] (cCons (gName 0) (cCons (gName 1) cNil))))) (tName 9))
  (sSeq (sIf (dNotT (dTst (dCallF (d__law_alike 8) [0, 1] (cCons (gVal (dTup (aCons (dMth "multiply" tab_multiply [0, 1, 2] (gName 3) (cCons (gName 8) (cCons (gName 9) cNil))) (aCons (dMth "multiply" tab_multiply [0, 2, 1] (gName 3) (cCons (gName 8) (cCons (gName 9) cNil))) aNil)))) (cCons (gVal (dTup (aCons (dBin fMod (vT (dCall (on1 fInt) (vCons (vT (dBin fMul (vS 8) (vS 9))) vNil))) (vS 2)) (aCons (dBin fMod (vT (dCall (on1 fInt) (vCons (vT (dBin fMul (vS 8) (vS 9))) vNil))) (vS 2)) aNil)))) cNil))))) (sRet (dC (.bl false))) sNext)
  (sSeq (sAsg (dMth "inverse_of" tab_inverse_of [0, 1] (gName 3) (cCons (gName 8) cNil)) (tName 10))
  (sSeq (sIf (dOrT (dNotT (dTst (dCallF (d__law_alike 8) [0, 1] (cCons (gVal (dBin fInU (vS 10) (vS 6))) (cCons (gVal (dC (.bl true))) cNil))))) (dNotT (dTst (dCallF (d__law_alike 8) [0, 1] (cCons (gVal (dMth "multiply" tab_multiply [0, 1, 2] (gName 3) (cCons (gName 8) (cCons (gName 10) cNil)))) (cCons (gVal (dC (.int 1))) cNil)))))) (sRet (dC (.bl false))) sNext)
  (sIf (dOrT (dNotT (dTst (dCallF (d__law_alike 8) [0, 1] (cCons (gVal (dMth "inverse_of" tab_inverse_of [0, 1] (gName 3) (cCons (gName 10) cNil))) (cCons (gName 8) cNil))))) (dNotT (dTst (dCallF (d__law_alike 8) [0, 1] (cCons (gVal (dMth "has" tab_has [0, 1] (gName 3) (cCons (gName 8) cNil))) (cCons (gVal (dC (.bl true))) cNil)))))) (sRet (dC (.bl false))) sNext)))))))
  (sSeq (sAsg (dBin fIx (vS 6) (vT (dBin fAdd (vT (dC (.int 1))) (vT (dCallF d__law_draw [0, 1] (cCons (gName 0) (cCons (gVal (dBin fSub (vS 1) (vT (dC (.int 1))))) cNil))))))) (tName 8))
  (sSeq (sAsg (dLst (aCons (dBin fAdd (vS 8) (vS 2)) (aCons (dBin fSub (vS 8) (vS 2)) (aCons (dBin fSub (vT (dC (.int 0))) (vS 8)) (aCons (dBin fPow (vT (dC (.int 10))) (vT (dC (.int 20)))) (aCons (dTup aNil) (aCons (dTup (aCons (dC (.int 1)) aNil)) (aCons (dC (.str (Str.ofString "1"))) (aCons (dC (.str (Str.ofString ""))) (aCons (dC .non) (aCons (dTup (aCons (dVar 6) aNil)) aNil))))))))))) (tName 11))
  (sSeq (sFor (iAny (dBin fAdd (vT (dLst (aCons (dC (.int 0)) (aCons (dC (.int 1)) (aCons (dUn fNeg (vT (dC (.int 1)))) (aCons (dVar 2) (aCons (dBin fAdd (vS 2) (vT (dC (.int 1)))) (aCons (dBin fSub (vT (dC (.int 1))) (vS 2)) (aCons (dBin fSub (vS 2) (vT (dC (.int 1)))) (aCons (dCallF d__law_draw [0, 1] (cCons (gName 0) (cCons (gName 2) cNil))) aNil)))))))))) (vS 11))) (tName 12) (sSeq (sAsg (dAndV (dCall (on2 fIsi) (vCons (vS 12) (vCons (vT (dC (.ty "int"))) vNil))) (dBin fInU (vS 12) (vS 6))) (tName 13))
  (sIf (dOrT (dNotT (dTst (dCallF (d__law_alike 8) [0, 1] (cCons (gVal (dMth "has" tab_has [0, 1] (gName 3) (cCons (gName 12) cNil))) (cCons (gName 13) cNil))))) (dNotT (dTst (dCallF (d__law_alike 8) [0, 1] (cCons (gVal (dMth "has" tab_has [0, 1] (gName 3) (cCons (gName 12) cNil))) (cCons (gName 13) cNil)))))) (sRet (dC (.bl false))) sNext)))
  (sRet (dC (.bl true))))))))))))))))
def d__law_right : Den := denFn [true, false] 15 b__law_right
theorem ok__law_right : FnOk P w K mg base (L2.CX P w) 9 Fx.a__law_right Fx.fd__law_right ["box", "q"] (spD ⟨K, Fx.cl.f, none⟩ 2 d__law_right) := by
  refine fn_ok (cl := Fx.cl) (k := 8) rfl Fx.F__law_right sc__law_right rfl (by decide) fun cdv A outer s H E hr => ?_
  exact (show HSs _ _ _ _ b__law_right from (hss_cons (hs_asg (ss := [2]) (he_fn (ok__law_modulus Fx) (hr.mono (by first | decide | omega)) (takes_of rfl rfl rfl rfl) (by rfl) Fx.g__law_modulus Fx.F__law_modulus.kp (kb__law_modulus_2_ Fx) (hc_cons (ga_name (pv 0)) (hc_cons (ga_name (pv 1)) hc_nil))) (hg_name (pg_name (i := 2) sc__law_right.nd rfl (by first | exact .inl rfl | exact .inr rfl))))
      (hss_cons (hs_if (ht_cmp (f := fEq) (OpR.or op_eq (op_eqD hr.units)) bEq (hv_name (pv 2)) (hv_of he_int) (nomark _)) (hss_cons (hs_asg (ss := [2]) he_int (hg_name (pg_name (i := 2) sc__law_right.nd rfl (by first | exact .inl rfl | exact .inr rfl))))
      (hss_one (hs_asg (ss := [1]) he_int (hg_name (pg_name (i := 1) sc__law_right.nd rfl (by first | exact .inl rfl | exact .inr rfl)))))) hss_nil)
      (hss_cons (hs_asg (ss := [3]) (he_fz (he_make (c := "PowerGroup") (p := [1, 2]) Fx.mk_PowerGroup rfl (ok_PowerGroup___init__ Fx) (hr.mono (by first | decide | omega)) (takes_of rfl rfl rfl rfl) (by rfl) Fx.gc_PowerGroup (kb_PowerGroup___init___3_ Fx) (hc_cons (ga_name (pv 2)) (hc_cons (ga_name (pv 1)) hc_nil)))) (hg_name (pg_name (i := 3) sc__law_right.nd rfl (by first | exact .inl rfl | exact .inr rfl))))
      (hss_cons (hs_asg (ss := [4]) (he_fz (he_makeK0 (c := "PowerGroup") (p := [2, 1]) Fx.mk_PowerGroup rfl (ok_PowerGroup___init__ Fx) (hr.mono (by first | decide | omega)) (takes_of rfl rfl rfl rfl) (by rfl) Fx.gc_PowerGroup (kb_PowerGroup___init___1_order_modulus Fx) (hck_cons (ga_name (pv 1)) (hck_cons (ga_name (pv 2)) hck_nil)))) (hg_name (pg_name (i := 4) sc__law_right.nd rfl (by first | exact .inl rfl | exact .inr rfl))))
      (hss_cons (hs_asg (ss := [5]) (he_fn (ok__law_powers Fx) (hr.mono (by first | decide | omega)) (takes_of rfl rfl rfl rfl) (by rfl) Fx.g__law_powers Fx.F__law_powers.kp (kb__law_powers_2_ Fx) (hc_cons (ga_name (pv 2)) (hc_cons (ga_name (pv 1)) hc_nil))) (hg_name (pg_name (i := 5) sc__law_right.nd rfl (by first | exact .inl rfl | exact .inr rfl))))
      (hss_cons (hs_if (ht_not (ht_val (he_fn (ok__law_alike Fx 8) (hr.mono (by first | decide | omega)) (takes_of rfl rfl rfl rfl) (by rfl) Fx.g__law_alike Fx.F__law_alike.kp (kb__law_alike_2_ Fx) (hc_cons (ga_val (he_tup (ha_cons (he_fld (cs := cs_) (f := "modulus") (Fx.fld_modulus) (hv_name (pv 4))) (ha_cons (he_fld (cs := cs_) (f := "order") (Fx.fld_order) (hv_name (pv 4))) (ha_cons (he_fld (cs := cs_) (f := "members") (Fx.fld_members) (hv_name (pv 4))) ha_nil))))) (hc_cons (ga_val (he_tup (ha_cons (he_var (pv 2)) (ha_cons (he_var (pv 1)) (ha_cons (he_fld (cs := cs_) (f := "members") (Fx.fld_members) (hv_name (pv 3))) ha_nil))))) hc_nil))))) (hss_one (hs_ret he_bl)) hss_nil)
      (hss_cons (hs_if (ht_w (hw_or (ht_not (ht_val (he_callB (f := on2 (fIsC sub_i)) call_isi (cIsC Fx.isC) (by rfl) Fx.z_isinstance rfl (hvs_cons (hv_name (pv 3)) (hvs_cons (hv_of (he_cls (n := "Group") (C := Fx.C_Group) rfl (by rfl) Fx.gc_Group)) hvs_nil))))) (hw_or1 (ht_not (ht_val (he_fn (ok__law_alike Fx 8) (hr.mono (by first | decide | omega)) (takes_of rfl rfl rfl rfl) (by rfl) Fx.g__law_alike Fx.F__law_alike.kp (kb__law_alike_2_ Fx) (hc_cons (ga_val (he_tup (ha_cons (he_fld (cs := cs_) (f := "modulus") (Fx.fld_modulus) (hv_name (pv 3))) (ha_cons (he_fld (cs := cs_) (f := "order") (Fx.fld_order) (hv_name (pv 3))) (ha_cons (he_fld (cs := cs_) (f := "unit") (Fx.fld_unit) (hv_name (pv 3))) ha_nil))))) (hc_cons (ga_val (he_tup (ha_cons (he_var (pv 2)) (ha_cons (he_var (pv 1)) (ha_cons he_int ha_nil))))) hc_nil)))))))) (hss_one (hs_ret he_bl)) hss_nil)
      (hss_cons (hs_asg (ss := [6]) (he_fn (ok__law_members Fx) (hr.mono (by first | decide | omega)) (takes_of rfl rfl rfl rfl) (by rfl) Fx.g__law_members Fx.F__law_members.kp (kb__law_members_2_ Fx) (hc_cons (ga_name (pv 2)) (hc_cons (ga_name (pv 1)) hc_nil))) (hg_name (pg_name (i := 6) sc__law_right.nd rfl (by first | exact .inl rfl | exact .inr rfl))))
      (hss_cons (hs_if (ht_w (hw_or (ht_not (ht_val (he_fn (ok__law_alike Fx 8) (hr.mono (by first | decide | omega)) (takes_of rfl rfl rfl rfl) (by rfl) Fx.g__law_alike Fx.F__law_alike.kp (kb__law_alike_2_ Fx) (hc_cons (ga_val (he_fld (cs := cs_) (f := "members") (Fx.fld_members) (hv_name (pv 3)))) (hc_cons (ga_name (pv 6)) hc_nil))))) (hw_or (ht_cmp (f := fNe) (OpR.or op_ne (op_neD hr.units)) bNe (hv_of (he_callB (f := fLenU) (CallR.or call_len_seq (CallR.or call_len_str call_lenD)) cLenU (by rfl) Fx.z_len rfl (hvs_cons (hv_name (pv 6)) hvs_nil))) (hv_name (pv 1)) (nomark _)) (hw_or1 (ht_not (ht_val (he_callB (f := on1 fAll) (cr_all rfl) cAll (by rfl) Fx.z_all rfl (hvs_cons (hv_of (he_lc (own := [("x", 14)]) (di := (iAny (dVar 6))) (t := (tName 14)) (dc := dYes) (de := (dBin fInU (vS 14) (vS 5))) (pe_lc rfl sc__law_right.nd (hi_any (he_var (pv 6))) (blkOk_by (own := [("x", 14)]) (N := sN__law_right) (sc := defScope s__law_right) (by decide +kernel)) (fun _ _ _ _ _ => (hg_name (pg_name (i := 14) sc__law_right.nd rfl (by first | exact .inl rfl | exact .inr rfl)))) (fun _ _ _ _ _ => hts_nil) (fun _ _ _ _ _ => (he_cmp (f := fInU) (OpR.or op_in_seq (op_in_dk (hu_of hr))) (BinOk.or bIn bDin) (hv_name (pv 14)) (hv_name (pv 5)) (by rfl)))))) hvs_nil)))))))) (hss_one (hs_ret he_bl)) hss_nil)
      (hss_cons (hs_for (ss := [7]) (passes_of rfl) rfl (hi_range1 (by rfl) Fx.z_range (hvs_cons (hv_of he_int) hvs_nil)) (hg_name (pg_name (i := 7) sc__law_right.nd rfl (by first | exact .inl rfl | exact .inr rfl))) (hss_cons (hs_asg (ss := [8]) (he_sbs (hu_of hr) (hv_name (pv 6)) (hv_of (he_fn (ok__law_draw Fx) (hr.mono (by first | decide | omega)) (takes_of rfl rfl rfl rfl) (by rfl) Fx.g__law_draw Fx.F__law_draw.kp (kb__law_draw_2_ Fx) (hc_cons (ga_name (pv 0)) (hc_cons (ga_name (pv 1)) hc_nil)))) (fun _ _ => rfl)) (hg_name (pg_name (i := 8) sc__law_right.nd rfl (by first | exact .inl rfl | exact .inr rfl))))
      (hss_cons (hs_asg (ss := [9]) (he_sbs (hu_of hr) (hv_name (pv 6)) (hv_of (he_fn (ok__law_draw Fx) (hr.mono (by first | decide | omega)) (takes_of rfl rfl rfl rfl) (by rfl) Fx.g__law_draw Fx.F__law_draw.kp (kb__law_draw_2_ Fx) (hc_cons (ga_name (pv 0)) (hc_cons (ga_name (pv 1)) hc_nil)))) (fun _ _ => rfl)) (hg_name (pg_name (i := 9) sc__law_right.nd rfl (by first | exact .inl rfl | exact .inr rfl))))
      (hss_cons (hs_if (ht_not (ht_val (he_fn (ok__law_alike Fx 8) (hr.mono (by first | decide | omega)) (takes_of rfl rfl rfl rfl) (by rfl) Fx.g__law_alike Fx.F__law_alike.kp (kb__law_alike_2_ Fx) (hc_cons (ga_val (he_tup (ha_cons (he_mth (n0 := 2) (p := [0, 1, 2]) (by decide) ⟨mt_multiply_2_ Fx _ (hr.mono (by first | decide | omega))⟩ (takes_of rfl rfl rfl rfl) (ga_name (pv 3)) (hc_cons (ga_name (pv 8)) (hc_cons (ga_name (pv 9)) hc_nil))) (ha_cons (he_mthK0 (n1 := 2) (p := [0, 2, 1]) (by decide) ⟨mt_multiply_0_second_first Fx _ (hr.mono (by first | decide | omega))⟩ (takes_of rfl rfl rfl rfl) (ga_name (pv 3)) (hck_cons (ga_name (pv 8)) (hck_cons (ga_name (pv 9)) hck_nil))) ha_nil)))) (hc_cons (ga_val (he_tup (ha_cons (he_mod (hv_of (he_callTy (f := (on1 fInt)) call_int1 cInt (by rfl) Fx.z_int rfl (hvs_cons (hv_of (he_mul (hv_name (pv 8)) (hv_name (pv 9)))) hvs_nil))) (hv_name (pv 2))) (ha_cons (he_mod (hv_of (he_callTy (f := (on1 fInt)) call_int1 cInt (by rfl) Fx.z_int rfl (hvs_cons (hv_of (he_mul (hv_name (pv 8)) (hv_name (pv 9)))) hvs_nil))) (hv_name (pv 2))) ha_nil)))) hc_nil))))) (hss_one (hs_ret he_bl)) hss_nil)
      (hss_cons (hs_asg (ss := [10]) (he_mth (n0 := 1) (p := [0, 1]) (by decide) ⟨mt_inverse_of_1_ Fx _ (hr.mono (by first | decide | omega))⟩ (takes_of rfl rfl rfl rfl) (ga_name (pv 3)) (hc_cons (ga_name (pv 8)) hc_nil)) (hg_name (pg_name (i := 10) sc__law_right.nd rfl (by first | exact .inl rfl | exact .inr rfl))))
      (hss_cons (hs_if (ht_w (hw_or (ht_not (ht_val (he_fn (ok__law_alike Fx 8) (hr.mono (by first | decide | omega)) (takes_of rfl rfl rfl rfl) (by rfl) Fx.g__law_alike Fx.F__law_alike.kp (kb__law_alike_2_ Fx) (hc_cons (ga_val (he_cmp (f := fInU) (OpR.or op_in_seq (op_in_dk (hu_of hr))) (BinOk.or bIn bDin) (hv_name (pv 10)) (hv_name (pv 6)) (by rfl))) (hc_cons (ga_val he_bl) hc_nil))))) (hw_or1 (ht_not (ht_val (he_fn (ok__law_alike Fx 8) (hr.mono (by first | decide | omega)) (takes_of rfl rfl rfl rfl) (by rfl) Fx.g__law_alike Fx.F__law_alike.kp (kb__law_alike_2_ Fx) (hc_cons (ga_val (he_mth (n0 := 2) (p := [0, 1, 2]) (by decide) ⟨mt_multiply_2_ Fx _ (hr.mono (by first | decide | omega))⟩ (takes_of rfl rfl rfl rfl) (ga_name (pv 3)) (hc_cons (ga_name (pv 8)) (hc_cons (ga_name (pv 10)) hc_nil)))) (hc_cons (ga_val he_int) hc_nil)))))))) (hss_one (hs_ret he_bl)) hss_nil)
      (hss_one (hs_if (ht_w (hw_or (ht_not (ht_val (he_fn (ok__law_alike Fx 8) (hr.mono (by first | decide | omega)) (takes_of rfl rfl rfl rfl) (by rfl) Fx.g__law_alike Fx.F__law_alike.kp (kb__law_alike_2_ Fx) (hc_cons (ga_val (he_mthK0 (n1 := 1) (p := [0, 1]) (by decide) ⟨mt_inverse_of_0_element Fx _ (hr.mono (by first | decide | omega))⟩ (takes_of rfl rfl rfl rfl) (ga_name (pv 3)) (hck_cons (ga_name (pv 10)) hck_nil))) (hc_cons (ga_name (pv 8)) hc_nil))))) (hw_or1 (ht_not (ht_val (he_fn (ok__law_alike Fx 8) (hr.mono (by first | decide | omega)) (takes_of rfl rfl rfl rfl) (by rfl) Fx.g__law_alike Fx.F__law_alike.kp (kb__law_alike_2_ Fx) (hc_cons (ga_val (he_mth (n0 := 1) (p := [0, 1]) (by decide) ⟨mt_has_1_ Fx _ (hr.mono (by first | decide | omega))⟩ (takes_of rfl rfl rfl rfl) (ga_name (pv 3)) (hc_cons (ga_name (pv 8)) hc_nil))) (hc_cons (ga_val he_bl) hc_nil)))))))) (hss_one (hs_ret he_bl)) hss_nil))))))))
      (hss_cons (hs_asg (ss := [8]) (he_sbs (hu_of hr) (hv_name (pv 6)) (hv_of (he_add (hv_of he_int) (hv_of (he_fn (ok__law_draw Fx) (hr.mono (by first | decide | omega)) (takes_of rfl rfl rfl rfl) (by rfl) Fx.g__law_draw Fx.F__law_draw.kp (kb__law_draw_2_ Fx) (hc_cons (ga_name (pv 0)) (hc_cons (ga_val (he_sub (hv_name (pv 1)) (hv_of he_int))) hc_nil)))))) (fun _ _ => rfl)) (hg_name (pg_name (i := 8) sc__law_right.nd rfl (by first | exact .inl rfl | exact .inr rfl))))
      (hss_cons (hs_asg (ss := [11]) (he_lst (ha_cons (he_add (hv_name (pv 8)) (hv_name (pv 2))) (ha_cons (he_sub (hv_name (pv 8)) (hv_name (pv 2))) (ha_cons (he_sub (hv_of he_int) (hv_name (pv 8))) (ha_cons (he_pow (hv_of he_int) (hv_of he_int)) (ha_cons (he_tup ha_nil) (ha_cons (he_tup (ha_cons he_int ha_nil)) (ha_cons he_str (ha_cons he_str (ha_cons he_non (ha_cons (he_tup (ha_cons (he_var (pv 6)) ha_nil)) ha_nil))))))))))) (hg_name (pg_name (i := 11) sc__law_right.nd rfl (by first | exact .inl rfl | exact .inr rfl))))
      (hss_cons (hs_for (ss := [12]) (passes_of rfl) rfl (hi_any (he_add (hv_of (he_lst (ha_cons he_int (ha_cons he_int (ha_cons (he_un un_neg uNeg (hv_of he_int)) (ha_cons (he_var (pv 2)) (ha_cons (he_add (hv_name (pv 2)) (hv_of he_int)) (ha_cons (he_sub (hv_of he_int) (hv_name (pv 2))) (ha_cons (he_sub (hv_name (pv 2)) (hv_of he_int)) (ha_cons (he_fn (ok__law_draw Fx) (hr.mono (by first | decide | omega)) (takes_of rfl rfl rfl rfl) (by rfl) Fx.g__law_draw Fx.F__law_draw.kp (kb__law_draw_2_ Fx) (hc_cons (ga_name (pv 0)) (hc_cons (ga_name (pv 2)) hc_nil))) ha_nil)))))))))) (hv_name (pv 11)))) (hg_name (pg_name (i := 12) sc__law_right.nd rfl (by first | exact .inl rfl | exact .inr rfl))) (hss_cons (hs_asg (ss := [13]) (he_and (he_callB (f := on2 fIsi) call_isi cIsi (by rfl) Fx.z_isinstance rfl (hvs_cons (hv_name (pv 12)) (hvs_cons (hv_of (he_ty (by rfl) Fx.z_int rfl)) hvs_nil))) (he_one (he_cmp (f := fInU) (OpR.or op_in_seq (op_in_dk (hu_of hr))) (BinOk.or bIn bDin) (hv_name (pv 12)) (hv_name (pv 6)) (by rfl)))) (hg_name (pg_name (i := 13) sc__law_right.nd rfl (by first | exact .inl rfl | exact .inr rfl))))
      (hss_one (hs_if (ht_w (hw_or (ht_not (ht_val (he_fn (ok__law_alike Fx 8) (hr.mono (by first | decide | omega)) (takes_of rfl rfl rfl rfl) (by rfl) Fx.g__law_alike Fx.F__law_alike.kp (kb__law_alike_2_ Fx) (hc_cons (ga_val (he_mth (n0 := 1) (p := [0, 1]) (by decide) ⟨mt_has_1_ Fx _ (hr.mono (by first | decide | omega))⟩ (takes_of rfl rfl rfl rfl) (ga_name (pv 3)) (hc_cons (ga_name (pv 12)) hc_nil))) (hc_cons (ga_name (pv 13)) hc_nil))))) (hw_or1 (ht_not (ht_val (he_fn (ok__law_alike Fx 8) (hr.mono (by first | decide | omega)) (takes_of rfl rfl rfl rfl) (by rfl) Fx.g__law_alike Fx.F__law_alike.kp (kb__law_alike_2_ Fx) (hc_cons (ga_val (he_mthK0 (n1 := 1) (p := [0, 1]) (by decide) ⟨mt_has_0_value Fx _ (hr.mono (by first | decide | omega))⟩ (takes_of rfl rfl rfl rfl) (ga_name (pv 3)) (hck_cons (ga_name (pv 12)) hck_nil))) (hc_cons (ga_name (pv 13)) hc_nil)))))))) (hss_one (hs_ret he_bl)) hss_nil))))
      (hss_one (hs_ret he_bl))))))))))))))))
theorem kb__law_is_refused_2_ : KB K Fx.fd__law_is_refused ["p", "q"] [] 2 0 [0, 1] := KB.of Fx.F__law_is_refused (fun _ _ _ _ _ _ us ws h0 h1 => match us, ws, h0, h1 with | [_, _], [], _, _ => rfl) (by decide)
def b__law_is_refused : En → Out :=
  (sSeq (sTryM (sExpr (dFz (dMake "PowerGroup" d_PowerGroup___init__ [1, 2] (cCons (gName 0) (cCons (gName 1) cNil))))) [(sub_c "BadGroup", fun _ => (sRet (dC (.bl true))))])
  (sRet (dC (.bl false))))
def d__law_is_refused : Den := denFn [true, true] 2 b__law_is_refused
theorem ok__law_is_refused : FnOk P w K mg base (L2.CX P w) 5 Fx.a__law_is_refused Fx.fd__law_is_refused ["p", "q"] (spD ⟨K, Fx.cl.f, none⟩ 2 d__law_is_refused) := by
  refine fn_ok (cl := Fx.cl) (k := 4) rfl Fx.F__law_is_refused sc__law_is_refused rfl (by decide) fun cdv A outer s H E hr => ?_
  exact (show HSs _ _ _ _ b__law_is_refused from (hss_cons (hs_try rfl rfl (takes_of rfl rfl rfl rfl) (fun W1 pn1 xe1 tk1 po1 => (hss_one (hs_expr (he_fz (he_make (c := "PowerGroup") (p := [1, 2]) Fx.mk_PowerGroup rfl (ok_PowerGroup___init__ Fx) (hr.mono (by first | decide | omega)) tk1 (by rfl) Fx.gc_PowerGroup (kb_PowerGroup___init___3_ Fx) (hc_cons (ga_name (pv 0)) (hc_cons (ga_name (pv 1)) hc_nil))))))) (HHs.cons (sub := sub_c "BadGroup") (hd := fun _ => (sRet (dC (.bl true)))) (Fx.nm_BadGroup (by rfl)) Fx.sub_BadGroup (fun c C a oe d pn hc hz hf => (hss_one (hs_ret he_bl))) HHs.nil))
      (hss_one (hs_ret he_bl))))
theorem kb__law_composite_2_ : KB K Fx.fd__law_composite ["box", "q"] [] 2 0 [0, 1] := KB.of Fx.F__law_composite (fun _ _ _ _ _ _ us ws h0 h1 => match us, ws, h0, h1 with | [_, _], [], _, _ => rfl) (by decide)
def b__law_composite : En → Out :=
  (sSeq (sAsg (dBin fDiv (vT (dC (.int 999))) (vS 1)) (tName 2))
  (sSeq (sAsg (dCallF d__law_draw [0, 1] (cCons (gName 0) (cCons (gName 2) cNil))) (tName 3))
  (sSeq (sFor (iOps (vCons (vS 2) vNil) gR1) (tName 4) (sSeq (sAsg (dBin fAdd (vT (dC (.int 1))) (vT (dBin fMul (vS 1) (vT (dBin fAdd (vT (dC (.int 1))) (vT (dBin fMod (vT (dCall (on1 fInt) (vCons (vT (dBin fAdd (vS 3) (vS 4))) vNil))) (vS 2)))))))) (tName 5))
  (sIf (dNotT (dTst (dCallF d__law_is_prime [0] (cCons (gName 5) cNil)))) (sRet (dMove 5)) sNext)))
  (sRet (dC (.int 1))))))
def d__law_composite : Den := denFn [true, true] 6 b__law_composite
theorem ok__law_composite : FnOk P w K mg base (L2.CX P w) 3 Fx.a__law_composite Fx.fd__law_composite ["box", "q"] (spD ⟨K, Fx.cl.f, none⟩ 2 d__law_composite) := by
  refine fn_ok (cl := Fx.cl) (k := 2) rfl Fx.F__law_composite sc__law_composite rfl (by decide) fun cdv A outer s H E hr => ?_
  exact (show HSs _ _ _ _ b__law_composite from (hss_cons (hs_asg (ss := [2]) (he_fdiv (hv_of he_int) (hv_name (pv 1))) (hg_name (pg_name (i := 2) sc__law_composite.nd rfl (by first | exact .inl rfl | exact .inr rfl))))
      (hss_cons (hs_asg (ss := [3]) (he_fn (ok__law_draw Fx) (hr.mono (by first | decide | omega)) (takes_of rfl rfl rfl rfl) (by rfl) Fx.g__law_draw Fx.F__law_draw.kp (kb__law_draw_2_ Fx) (hc_cons (ga_name (pv 0)) (hc_cons (ga_name (pv 2)) hc_nil))) (hg_name (pg_name (i := 3) sc__law_composite.nd rfl (by first | exact .inl rfl | exact .inr rfl))))
      (hss_cons (hs_for (ss := [4]) (passes_of rfl) rfl (hi_range1 (by rfl) Fx.z_range (hvs_cons (hv_name (pv 2)) hvs_nil)) (hg_name (pg_name (i := 4) sc__law_composite.nd rfl (by first | exact .inl rfl | exact .inr rfl))) (hss_cons (hs_asg (ss := [5]) (he_add (hv_of he_int) (hv_of (he_mul (hv_name (pv 1)) (hv_of (he_add (hv_of he_int) (hv_of (he_mod (hv_of (he_callTy (f := (on1 fInt)) call_int1 cInt (by rfl) Fx.z_int rfl (hvs_cons (hv_of (he_add (hv_name (pv 3)) (hv_name (pv 4)))) hvs_nil))) (hv_name (pv 2))))))))) (hg_name (pg_name (i := 5) sc__law_composite.nd rfl (by first | exact .inl rfl | exact .inr rfl))))
      (hss_one (hs_if (ht_not (ht_val (he_fn (ok__law_is_prime Fx) (hr.mono (by first | decide | omega)) (takes_of rfl rfl rfl rfl) (by rfl) Fx.g__law_is_prime Fx.F__law_is_prime.kp (kb__law_is_prime_1_ Fx) (hc_cons (ga_name (pv 5)) hc_nil)))) (hss_one (hs_ret (he_move (pv 5)))) hss_nil))))
      (hss_one (hs_ret he_int))))))
theorem kb__law_beyond_2_ : KB K Fx.fd__law_beyond ["box", "q"] [] 2 0 [0, 1] := KB.of Fx.F__law_beyond (fun _ _ _ _ _ _ us ws h0 h1 => match us, ws, h0, h1 with | [_, _], [], _, _ => rfl) (by decide)
def b__law_beyond : En → Out :=
  (sSeq (sFor (iOps (vCons (vT (dBin fAdd (vT (dC (.int 1001))) (vT (dCallF d__law_draw [0, 1] (cCons (gName 0) (cCons (gVal (dC (.int 200))) cNil)))))) (vCons (vT (dC (.int 1600))) vNil)) gR2) (tName 2) (sIf (dAndT (dTst (dBin fEq (vT (dBin fMod (vT (dCall (on1 fInt) (vCons (vS 2) vNil))) (vS 1))) (vT (dC (.int 1))))) (dTst (dCallF d__law_is_prime [0] (cCons (gName 2) cNil)))) (sRet (dMove 2)) sNext))
  (sRet (dC (.int 1009))))
def d__law_beyond : Den := denFn [true, true] 3 b__law_beyond
theorem ok__law_beyond : FnOk P w K mg base (L2.CX P w) 3 Fx.a__law_beyond Fx.fd__law_beyond ["box", "q"] (spD ⟨K, Fx.cl.f, none⟩ 2 d__law_beyond) := by
  refine fn_ok (cl := Fx.cl) (k := 2) rfl Fx.F__law_beyond sc__law_beyond rfl (by decide) fun cdv A outer s H E hr => ?_
  exact (show HSs _ _ _ _ b__law_beyond from (hss_cons (hs_for (ss := [2]) (passes_of rfl) rfl (hi_range2 (by rfl) Fx.z_range (hvs_cons (hv_of (he_add (hv_of he_int) (hv_of (he_fn (ok__law_draw Fx) (hr.mono (by first | decide | omega)) (takes_of rfl rfl rfl rfl) (by rfl) Fx.g__law_draw Fx.F__law_draw.kp (kb__law_draw_2_ Fx) (hc_cons (ga_name (pv 0)) (hc_cons (ga_val he_int) hc_nil)))))) (hvs_cons (hv_of he_int) hvs_nil))) (hg_name (pg_name (i := 2) sc__law_beyond.nd rfl (by first | exact .inl rfl | exact .inr rfl))) (hss_one (hs_if (ht_w (hw_and (ht_cmp (f := fEq) (OpR.or op_eq (op_eqD hr.units)) bEq (hv_of (he_mod (hv_of (he_callTy (f := (on1 fInt)) call_int1 cInt (by rfl) Fx.z_int rfl (hvs_cons (hv_name (pv 2)) hvs_nil))) (hv_name (pv 1)))) (hv_of he_int) (nomark _)) (hw_and1 (ht_val (he_fn (ok__law_is_prime Fx) (hr.mono (by first | decide | omega)) (takes_of rfl rfl rfl rfl) (by rfl) Fx.g__law_is_prime Fx.F__law_is_prime.kp (kb__law_is_prime_1_ Fx) (hc_cons (ga_name (pv 2)) hc_nil)))))) (hss_one (hs_ret (he_move (pv 2)))) hss_nil)))
      (hss_one (hs_ret he_int))))
theorem kb__law_wrong_orders_1_ : KB K Fx.fd__law_wrong_orders ["p"] [] 1 0 [0] := KB.of Fx.F__law_wrong_orders (fun _ _ _ _ _ _ us ws h0 h1 => match us, ws, h0, h1 with | [_], [], _, _ => rfl) (by decide)
def b__law_wrong_orders : En → Out :=
  (sSeq (sAsg (dSl fSl (vT (dLc (iOps (vCons (vT (dC (.int 4))) (vCons (vT (dC (.int 128))) vNil)) gR2) [2] (tName 2) (dAndT (dTst (dBin fEq (vT (dBin fMod (vT (dCall (on1 fInt) (vCons (vT (dBin fSub (vS 0) (vT (dC (.int 1))))) vNil))) (vS 2))) (vT (dC (.int 0))))) (dNotT (dTst (dCallF d__law_is_prime [0] (cCons (gName 2) cNil))))) (dVar 2))) oNone (oSome (vT (dC (.int 3))))) (tName 1))
  (sSeq (sAsg (dBin fAdd (vS 1) (vT (dSl fSl (vT (dLc (iOps (vCons (vT (dC (.int 128))) (vCons (vS 0) vNil)) gR2) [2] (tName 2) (dAndT (dTst (dBin fEq (vT (dBin fMod (vT (dCall (on1 fInt) (vCons (vT (dBin fSub (vS 0) (vT (dC (.int 1))))) vNil))) (vS 2))) (vT (dC (.int 0))))) (dTst (dCallF d__law_is_prime [0] (cCons (gName 2) cNil)))) (dVar 2))) oNone (oSome (vT (dC (.int 2))))))) (tName 1))
  (sSeq (sAsg (dBin fAdd (vS 1) (vT (dSl fSl (vT (dLc (iOps (vCons (vT (dC (.int 3))) (vCons (vT (dC (.int 128))) vNil)) gR2) [2] (tName 2) (dAndT (dTst (dBin fNe (vT (dBin fMod (vT (dCall (on1 fInt) (vCons (vT (dBin fSub (vS 0) (vT (dC (.int 1))))) vNil))) (vS 2))) (vT (dC (.int 0))))) (dTst (dCallF d__law_is_prime [0] (cCons (gName 2) cNil)))) (dVar 2))) oNone (oSome (vT (dC (.int 4))))))) (tName 1))
  (sRet (dBin fAdd (vS 1) (vT (dLst (aCons (dC (.int 2)) (aCons (dC (.int 1)) (aCons (dC (.int 0)) (aCons (dUn fNeg (vT (dC (.int 1)))) (aCons (dUn fNeg (vT (dC (.int 3)))) (aCons (dBin fSub (vS 0) (vT (dC (.int 1)))) (aCons (dVar 0) (aCons (dBin fPow (vT (dC (.int 10))) (vT (dC (.int 9)))) aNil)))))))))))))))
def d__law_wrong_orders : Den := denFn [true] 3 b__law_wrong_orders
theorem ok__law_wrong_orders : FnOk P w K mg base (L2.CX P w) 2 Fx.a__law_wrong_orders Fx.fd__law_wrong_orders ["p"] (spD ⟨K, Fx.cl.f, none⟩ 1 d__law_wrong_orders) := by
  refine fn_ok (cl := Fx.cl) (k := 1) rfl Fx.F__law_wrong_orders sc__law_wrong_orders rfl (by decide) fun cdv A outer s H E hr => ?_
  exact (show HSs _ _ _ _ b__law_wrong_orders from (hss_cons (hs_asg (ss := [1]) (he_sl (hv_of (he_lc (own := [("d", 2)]) (di := (iOps (vCons (vT (dC (.int 4))) (vCons (vT (dC (.int 128))) vNil)) gR2)) (t := (tName 2)) (dc := (dAndT (dTst (dBin fEq (vT (dBin fMod (vT (dCall (on1 fInt) (vCons (vT (dBin fSub (vS 0) (vT (dC (.int 1))))) vNil))) (vS 2))) (vT (dC (.int 0))))) (dNotT (dTst (dCallF d__law_is_prime [0] (cCons (gName 2) cNil)))))) (de := (dVar 2)) (pe_lc rfl sc__law_wrong_orders.nd (hi_range2 (by rfl) Fx.z_range (hvs_cons (hv_of he_int) (hvs_cons (hv_of he_int) hvs_nil))) (blkOk_by (own := [("d", 2)]) (N := sN__law_wrong_orders) (sc := defScope s__law_wrong_orders) (by decide +kernel)) (fun _ _ _ _ _ => (hg_name (pg_name (i := 2) sc__law_wrong_orders.nd rfl (by first | exact .inl rfl | exact .inr rfl)))) (fun _ _ _ _ _ => (hts_one (ht_w (hw_and (ht_cmp (f := fEq) (OpR.or op_eq (op_eqD hr.units)) bEq (hv_of (he_mod (hv_of (he_callTy (f := (on1 fInt)) call_int1 cInt (by rfl) Fx.z_int rfl (hvs_cons (hv_of (he_sub (hv_name (pv 0)) (hv_of he_int))) hvs_nil))) (hv_name (pv 2)))) (hv_of he_int) (nomark _)) (hw_and1 (ht_not (ht_val (he_fn (ok__law_is_prime Fx) (hr.mono (by first | decide | omega)) takes0 (by rfl) Fx.g__law_is_prime Fx.F__law_is_prime.kp (kb__law_is_prime_1_ Fx) (hc_cons (ga_name (pv 2)) hc_nil))))))))) (fun _ _ _ _ _ => (he_var (pv 2)))))) ho_none (ho_some (hv_of he_int))) (hg_name (pg_name (i := 1) sc__law_wrong_orders.nd rfl (by first | exact .inl rfl | exact .inr rfl))))
      (hss_cons (hs_asg (ss := [1]) (he_add (hv_name (pv 1)) (hv_of (he_sl (hv_of (he_lc (own := [("d", 2)]) (di := (iOps (vCons (vT (dC (.int 128))) (vCons (vS 0) vNil)) gR2)) (t := (tName 2)) (dc := (dAndT (dTst (dBin fEq (vT (dBin fMod (vT (dCall (on1 fInt) (vCons (vT (dBin fSub (vS 0) (vT (dC (.int 1))))) vNil))) (vS 2))) (vT (dC (.int 0))))) (dTst (dCallF d__law_is_prime [0] (cCons (gName 2) cNil))))) (de := (dVar 2)) (pe_lc rfl sc__law_wrong_orders.nd (hi_range2 (by rfl) Fx.z_range (hvs_cons (hv_of he_int) (hvs_cons (hv_name (pv 0)) hvs_nil))) (blkOk_by (own := [("d", 2)]) (N := sN__law_wrong_orders) (sc := defScope s__law_wrong_orders) (by decide +kernel)) (fun _ _ _ _ _ => (hg_name (pg_name (i := 2) sc__law_wrong_orders.nd rfl (by first | exact .inl rfl | exact .inr rfl)))) (fun _ _ _ _ _ => (hts_one (ht_w (hw_and (ht_cmp (f := fEq) (OpR.or op_eq (op_eqD hr.units)) bEq (hv_of (he_mod (hv_of (he_callTy (f := (on1 fInt)) call_int1 cInt (by rfl) Fx.z_int rfl (hvs_cons (hv_of (he_sub (hv_name (pv 0)) (hv_of he_int))) hvs_nil))) (hv_name (pv 2)))) (hv_of he_int) (nomark _)) (hw_and1 (ht_val (he_fn (ok__law_is_prime Fx) (hr.mono (by first | decide | omega)) takes0 (by rfl) Fx.g__law_is_prime Fx.F__law_is_prime.kp (kb__law_is_prime_1_ Fx) (hc_cons (ga_name (pv 2)) hc_nil)))))))) (fun _ _ _ _ _ => (he_var (pv 2)))))) ho_none (ho_some (hv_of he_int))))) (hg_name (pg_name (i := 1) sc__law_wrong_orders.nd rfl (by first | exact .inl rfl | exact .inr rfl))))
      (hss_cons (hs_asg (ss := [1]) (he_add (hv_name (pv 1)) (hv_of (he_sl (hv_of (he_lc (own := [("d", 2)]) (di := (iOps (vCons (vT (dC (.int 3))) (vCons (vT (dC (.int 128))) vNil)) gR2)) (t := (tName 2)) (dc := (dAndT (dTst (dBin fNe (vT (dBin fMod (vT (dCall (on1 fInt) (vCons (vT (dBin fSub (vS 0) (vT (dC (.int 1))))) vNil))) (vS 2))) (vT (dC (.int 0))))) (dTst (dCallF d__law_is_prime [0] (cCons (gName 2) cNil))))) (de := (dVar 2)) (pe_lc rfl sc__law_wrong_orders.nd (hi_range2 (by rfl) Fx.z_range (hvs_cons (hv_of he_int) (hvs_cons (hv_of he_int) hvs_nil))) (blkOk_by (own := [("d", 2)]) (N := sN__law_wrong_orders) (sc := defScope s__law_wrong_orders) (by decide +kernel)) (fun _ _ _ _ _ => (hg_name (pg_name (i := 2) sc__law_wrong_orders.nd rfl (by first | exact .inl rfl | exact .inr rfl)))) (fun _ _ _ _ _ => (hts_one (ht_w (hw_and (ht_cmp (f := fNe) (OpR.or op_ne (op_neD hr.units)) bNe (hv_of (he_mod (hv_of (he_callTy (f := (on1 fInt)) call_int1 cInt (by rfl) Fx.z_int rfl (hvs_cons (hv_of (he_sub (hv_name (pv 0)) (hv_of he_int))) hvs_nil))) (hv_name (pv 2)))) (hv_of he_int) (nomark _)) (hw_and1 (ht_val (he_fn (ok__law_is_prime Fx) (hr.mono (by first | decide | omega)) takes0 (by rfl) Fx.g__law_is_prime Fx.F__law_is_prime.kp (kb__law_is_prime_1_ Fx) (hc_cons (ga_name (pv 2)) hc_nil)))))))) (fun _ _ _ _ _ => (he_var (pv 2)))))) ho_none (ho_some (hv_of he_int))))) (hg_name (pg_name (i := 1) sc__law_wrong_orders.nd rfl (by first | exact .inl rfl | exact .inr rfl))))
      (hss_one (hs_ret (he_add (hv_name (pv 1)) (hv_of (he_lst (ha_cons he_int (ha_cons he_int (ha_cons he_int (ha_cons (he_un un_neg uNeg (hv_of he_int)) (ha_cons (he_un un_neg uNeg (hv_of he_int)) (ha_cons (he_sub (hv_name (pv 0)) (hv_of he_int)) (ha_cons (he_var (pv 0)) (ha_cons (he_pow (hv_of he_int) (hv_of he_int)) ha_nil)))))))))))))))))
theorem kb__law_great_order_1_ : KB K Fx.fd__law_great_order ["box"] [] 1 0 [0] := KB.of Fx.F__law_great_order (fun _ _ _ _ _ _ us ws h0 h1 => match us, ws, h0, h1 with | [_], [], _, _ => rfl) (by decide)
def b__law_great_order : En → Out :=
  (sSeq (sFor (iOps (vCons (vT (dBin fAdd (vT (dC (.int 131))) (vT (dCallF d__law_draw [0, 1] (cCons (gName 0) (cCons (gVal (dC (.int 300))) cNil)))))) (vCons (vT (dC (.int 500))) vNil)) gR2) (tName 1) (sIf (dAndT (dTst (dCallF d__law_is_prime [0] (cCons (gName 1) cNil))) (dAndT (dTst (dCallF d__law_is_prime [0] (cCons (gVal (dBin fAdd (vT (dBin fMul (vT (dC (.int 2))) (vS 1))) (vT (dC (.int 1))))) cNil))) (dTst (dBin fLt (vT (dBin fMul (vT (dC (.int 2))) (vS 1))) (vT (dC (.int 1000))))))) (sRet (dTup (aCons (dBin fAdd (vT (dBin fMul (vT (dC (.int 2))) (vS 1))) (vT (dC (.int 1)))) (aCons (dVar 1) aNil)))) sNext))
  (sRet (dTup (aCons (dC (.int 263)) (aCons (dC (.int 131)) aNil)))))
def d__law_great_order : Den := denFn [true] 2 b__law_great_order
theorem ok__law_great_order : FnOk P w K mg base (L2.CX P w) 3 Fx.a__law_great_order Fx.fd__law_great_order ["box"] (spD ⟨K, Fx.cl.f, none⟩ 1 d__law_great_order) := by
  refine fn_ok (cl := Fx.cl) (k := 2) rfl Fx.F__law_great_order sc__law_great_order rfl (by decide) fun cdv A outer s H E hr => ?_
  exact (show HSs _ _ _ _ b__law_great_order from (hss_cons (hs_for (ss := [1]) (passes_of rfl) rfl (hi_range2 (by rfl) Fx.z_range (hvs_cons (hv_of (he_add (hv_of he_int) (hv_of (he_fn (ok__law_draw Fx) (hr.mono (by first | decide | omega)) (takes_of rfl rfl rfl rfl) (by rfl) Fx.g__law_draw Fx.F__law_draw.kp (kb__law_draw_2_ Fx) (hc_cons (ga_name (pv 0)) (hc_cons (ga_val he_int) hc_nil)))))) (hvs_cons (hv_of he_int) hvs_nil))) (hg_name (pg_name (i := 1) sc__law_great_order.nd rfl (by first | exact .inl rfl | exact .inr rfl))) (hss_one (hs_if (ht_w (hw_and (ht_val (he_fn (ok__law_is_prime Fx) (hr.mono (by first | decide | omega)) (takes_of rfl rfl rfl rfl) (by rfl) Fx.g__law_is_prime Fx.F__law_is_prime.kp (kb__law_is_prime_1_ Fx) (hc_cons (ga_name (pv 1)) hc_nil))) (hw_and (ht_val (he_fn (ok__law_is_prime Fx) (hr.mono (by first | decide | omega)) (takes_of rfl rfl rfl rfl) (by rfl) Fx.g__law_is_prime Fx.F__law_is_prime.kp (kb__law_is_prime_1_ Fx) (hc_cons (ga_val (he_add (hv_of (he_mul (hv_of he_int) (hv_name (pv 1)))) (hv_of he_int))) hc_nil))) (hw_and1 (ht_cmp (f := fLt) op_lt bLt (hv_of (he_mul (hv_of he_int) (hv_name (pv 1)))) (hv_of he_int) (nomark _)))))) (hss_one (hs_ret (he_tup (ha_cons (he_add (hv_of (he_mul (hv_of he_int) (hv_name (pv 1)))) (hv_of he_int)) (ha_cons (he_var (pv 1)) ha_nil))))) hss_nil)))
      (hss_one (hs_ret (he_tup (ha_cons he_int (ha_cons he_int ha_nil)))))))
def b_law : En → Out :=
  (sSeq (sAsg (dCallF d__law_box [0, 1] (cCons (gName 0) (cCons (gVal (dC (.int 0))) cNil))) (tName 1))
  (sSeq (sAsg (dCallF d__law_box [0, 1] (cCons (gName 0) (cCons (gVal (dC (.int 1))) cNil))) (tName 2))
  (sSeq (sAsg (dCallF d__law_prime [0, 1, 2] (cCons (gName 1) (cCons (gVal (dC (.int 3))) (cCons (gVal (dC (.int 127))) cNil)))) (tName 3))
  (sSeq (sIf (dOrT (dNotT (dTst (dCallF d__law_right [0, 1] (cCons (gName 1) (cCons (gName 3) cNil))))) (dNotT (dTst (dCallF d__law_right [0, 1] (cLate 2 (cCons (gVal (dBin fIx (vT (dLst (aCons (dC (.int 3)) (aCons (dC (.int 5)) (aCons (dC (.int 7)) (aCons (dC (.int 11)) (aCons (dC (.int 13)) aNil))))))) (vT (dCallF d__law_draw [0, 1] (cCons (gName 2) (cCons (gVal (dC (.int 5))) cNil)))))) cNil)))))) (sRet (dC (.bl false))) sNext)
  (sSeq (sAsg (dCallF d__law_modulus [0, 1] (cCons (gName 2) (cCons (gName 3) cNil))) (tName 4))
  (sSeq (sIf (dTst (dBin fGt (vS 4) (vT (dC (.int 0))))) (sFor (iAny (dCallF d__law_wrong_orders [0] (cCons (gName 4) cNil))) (tName 5) (sIf (dNotT (dTst (dCallF d__law_is_refused [0, 1] (cCons (gName 4) (cCons (gName 5) cNil))))) (sRet (dC (.bl false))) sNext)) sNext)
  (sSeq (sFor (iAny (dLst (aCons (dCallF d__law_composite [0, 1] (cCons (gName 2) (cCons (gName 3) cNil))) (aCons (dCallF d__law_beyond [0, 1] (cCons (gName 2) (cCons (gName 3) cNil))) (aCons (dC (.int 1)) (aCons (dC (.int 0)) (aCons (dUn fNeg (vT (dC (.int 1)))) (aCons (dVar 3) (aCons (dC (.int 2)) (aCons (dC (.int 4)) (aCons (dC (.int 999983)) (aCons (dBin fPow (vT (dC (.int 10))) (vT (dC (.int 18)))) (aCons (dBin fSub (vT (dC (.int 0))) (vS 4)) aNil))))))))))))) (tName 6) (sIf (dNotT (dTst (dCallF d__law_is_refused [0, 1] (cCons (gName 6) (cCons (gName 3) cNil))))) (sRet (dC (.bl false))) sNext))
  (sSeq (sAsg (dCallF d__law_great_order [0] (cCons (gName 2) cNil)) (tName 7))
  (sRet (dAndV (dCallF d__law_is_refused [0, 1] (cCons (gVal (dBin fIx (vS 7) (vT (dC (.int 0))))) (cCons (gVal (dBin fIx (vS 7) (vT (dC (.int 1))))) cNil))) (dOrV (dBin fGt (vS 4) (vT (dC (.int 0)))) (dCallF d__law_is_refused [0, 1] (cCons (gVal (dBin fAdd (vT (dC (.int 1))) (vT (dBin fMul (vT (dC (.int 2))) (vS 3))))) (cCons (gName 3) cNil))))))))))))))
def d_law : Den := denFn [true] 8 b_law
theorem ok_law : FnOk P w K mg base (L2.CX P w) 10 Fx.a_law Fx.fd_law ["script"] (spD ⟨K, Fx.cl.f, none⟩ 1 d_law) := by
  refine fn_ok (cl := Fx.cl) (k := 9) rfl Fx.F_law sc_law rfl (by decide) fun cdv A outer s H E hr => ?_
  exact (show HSs _ _ _ _ b_law from (hss_cons (hs_asg (ss := [1]) (he_fn (ok__law_box Fx) (hr.mono (by first | decide | omega)) (takes_of rfl rfl rfl rfl) (by rfl) Fx.g__law_box Fx.F__law_box.kp (kb__law_box_2_ Fx) (hc_cons (ga_name (pv 0)) (hc_cons (ga_val he_int) hc_nil))) (hg_name (pg_name (i := 1) sc_law.nd rfl (by first | exact .inl rfl | exact .inr rfl))))
      (hss_cons (hs_asg (ss := [2]) (he_fn (ok__law_box Fx) (hr.mono (by first | decide | omega)) (takes_of rfl rfl rfl rfl) (by rfl) Fx.g__law_box Fx.F__law_box.kp (kb__law_box_2_ Fx) (hc_cons (ga_name (pv 0)) (hc_cons (ga_val he_int) hc_nil))) (hg_name (pg_name (i := 2) sc_law.nd rfl (by first | exact .inl rfl | exact .inr rfl))))
      (hss_cons (hs_asg (ss := [3]) (he_fn (ok__law_prime Fx) (hr.mono (by first | decide | omega)) (takes_of rfl rfl rfl rfl) (by rfl) Fx.g__law_prime Fx.F__law_prime.kp (kb__law_prime_3_ Fx) (hc_cons (ga_name (pv 1)) (hc_cons (ga_val he_int) (hc_cons (ga_val he_int) hc_nil)))) (hg_name (pg_name (i := 3) sc_law.nd rfl (by first | exact .inl rfl | exact .inr rfl))))
      (hss_cons (hs_if (ht_w (hw_or (ht_not (ht_val (he_fn (ok__law_right Fx) (hr.mono (by first | decide | omega)) (takes_of rfl rfl rfl rfl) (by rfl) Fx.g__law_right Fx.F__law_right.kp (kb__law_right_2_ Fx) (hc_cons (ga_name (pv 1)) (hc_cons (ga_name (pv 3)) hc_nil))))) (hw_or1 (ht_not (ht_val (he_fn (ok__law_right Fx) (hr.mono (by first | decide | omega)) (takes_of rfl rfl rfl rfl) (by rfl) Fx.g__law_right Fx.F__law_right.kp (kb__law_right_2_ Fx) (hc_late (pv 2) (hc_cons (ga_val (he_sbs (hu_of hr) (hv_of (he_lst (ha_cons he_int (ha_cons he_int (ha_cons he_int (ha_cons he_int (ha_cons he_int ha_nil))))))) (hv_of (he_fn (ok__law_draw Fx) (hr.mono (by first | decide | omega)) (takes_of rfl rfl rfl rfl) (by rfl) Fx.g__law_draw Fx.F__law_draw.kp (kb__law_draw_2_ Fx) (hc_cons (ga_name (pv 2)) (hc_cons (ga_val he_int) hc_nil)))) (fun _ _ => rfl))) hc_nil)))))))) (hss_one (hs_ret he_bl)) hss_nil)
      (hss_cons (hs_asg (ss := [4]) (he_fn (ok__law_modulus Fx) (hr.mono (by first | decide | omega)) (takes_of rfl rfl rfl rfl) (by rfl) Fx.g__law_modulus Fx.F__law_modulus.kp (kb__law_modulus_2_ Fx) (hc_cons (ga_name (pv 2)) (hc_cons (ga_name (pv 3)) hc_nil))) (hg_name (pg_name (i := 4) sc_law.nd rfl (by first | exact .inl rfl | exact .inr rfl))))
      (hss_cons (hs_if (ht_cmp (f := fGt) op_gt bGt (hv_name (pv 4)) (hv_of he_int) (nomark _)) (hss_one (hs_for (ss := [5]) (passes_of rfl) rfl (hi_any (he_fn (ok__law_wrong_orders Fx) (hr.mono (by first | decide | omega)) (takes_of rfl rfl rfl rfl) (by rfl) Fx.g__law_wrong_orders Fx.F__law_wrong_orders.kp (kb__law_wrong_orders_1_ Fx) (hc_cons (ga_name (pv 4)) hc_nil))) (hg_name (pg_name (i := 5) sc_law.nd rfl (by first | exact .inl rfl | exact .inr rfl))) (hss_one (hs_if (ht_not (ht_val (he_fn (ok__law_is_refused Fx) (hr.mono (by first | decide | omega)) (takes_of rfl rfl rfl rfl) (by rfl) Fx.g__law_is_refused Fx.F__law_is_refused.kp (kb__law_is_refused_2_ Fx) (hc_cons (ga_name (pv 4)) (hc_cons (ga_name (pv 5)) hc_nil))))) (hss_one (hs_ret he_bl)) hss_nil)))) hss_nil)
      (hss_cons (hs_for (ss := [6]) (passes_of rfl) rfl (hi_any (he_lst (ha_cons (he_fn (ok__law_composite Fx) (hr.mono (by first | decide | omega)) (takes_of rfl rfl rfl rfl) (by rfl) Fx.g__law_composite Fx.F__law_composite.kp (kb__law_composite_2_ Fx) (hc_cons (ga_name (pv 2)) (hc_cons (ga_name (pv 3)) hc_nil))) (ha_cons (he_fn (ok__law_beyond Fx) (hr.mono (by first | decide | omega)) (takes_of rfl rfl rfl rfl) (by rfl) Fx.g__law_beyond Fx.F__law_beyond.kp (kb__law_beyond_2_ Fx) (hc_cons (ga_name (pv 2)) (hc_cons (ga_name (pv 3)) hc_nil))) (ha_cons he_int (ha_cons he_int (ha_cons (he_un un_neg uNeg (hv_of he_int)) (ha_cons (he_var (pv 3)) (ha_cons he_int (ha_cons he_int (ha_cons he_int (ha_cons (he_pow (hv_of he_int) (hv_of he_int)) (ha_cons (he_sub (hv_of he_int) (hv_name (pv 4))) ha_nil))))))))))))) (hg_name (pg_name (i := 6) sc_law.nd rfl (by first | exact .inl rfl | exact .inr rfl))) (hss_one (hs_if (ht_not (ht_val (he_fn (ok__law_is_refused Fx) (hr.mono (by first | decide | omega)) (takes_of rfl rfl rfl rfl) (by rfl) Fx.g__law_is_refused Fx.F__law_is_refused.kp (kb__law_is_refused_2_ Fx) (hc_cons (ga_name (pv 6)) (hc_cons (ga_name (pv 3)) hc_nil))))) (hss_one (hs_ret he_bl)) hss_nil)))
      (hss_cons (hs_asg (ss := [7]) (he_fn (ok__law_great_order Fx) (hr.mono (by first | decide | omega)) (takes_of rfl rfl rfl rfl) (by rfl) Fx.g__law_great_order Fx.F__law_great_order.kp (kb__law_great_order_1_ Fx) (hc_cons (ga_name (pv 2)) hc_nil)) (hg_name (pg_name (i := 7) sc_law.nd rfl (by first | exact .inl rfl | exact .inr rfl))))
      (hss_one (hs_ret (he_and (he_fn (ok__law_is_refused Fx) (hr.mono (by first | decide | omega)) (takes_of rfl rfl rfl rfl) (by rfl) Fx.g__law_is_refused Fx.F__law_is_refused.kp (kb__law_is_refused_2_ Fx) (hc_cons (ga_val (he_sbs (hu_of hr) (hv_name (pv 7)) (hv_of he_int) (fun _ _ => rfl))) (hc_cons (ga_val (he_sbs (hu_of hr) (hv_name (pv 7)) (hv_of he_int) (fun _ _ => rfl))) hc_nil))) (he_one (he_or (he_cmp (f := fGt) op_gt bGt (hv_name (pv 4)) (hv_of he_int) (nomark _)) (he_one (he_fn (ok__law_is_refused Fx) (hr.mono (by first | decide | omega)) (takes_of rfl rfl rfl rfl) (by rfl) Fx.g__law_is_refused Fx.F__law_is_refused.kp (kb__law_is_refused_2_ Fx) (hc_cons (ga_val (he_add (hv_of he_int) (hv_of (he_mul (hv_of he_int) (hv_name (pv 3)))))) (hc_cons (ga_name (pv 3)) hc_nil))))))))))))))))))
end
end K05

namespace K05
open PySem L2 MX
/-- what the top has written -/
theorem all_mk {l : PySem.W.OpenLaw} {w : World} {K : PySem.W.Frag} {h : Heap} {mg : Str → Option Value} {fa : Addr} (X : K.In h) (G : h.Ns mainGlobals mg) (hfa : mg "law" = some (.ref fa))
    {C_Group C_PowerGroup : Addr}
    {od0 an0 : Option Addr} {sl0 : Array (Option Value)} {oc0 kV0 dc0 pm0 cd0 ct0 : Value} {f0 : Addr}
    {od1 an1 : Option Addr} {sl1 : Array (Option Value)} {oc1 kV1 dc1 pm1 cd1 ct1 : Value} {f1 : Addr}
    {od2 an2 : Option Addr} {sl2 : Array (Option Value)} {oc2 kV2 dc2 pm2 cd2 ct2 : Value} {f2 : Addr}
    {od3 an3 : Option Addr} {sl3 : Array (Option Value)} {oc3 kV3 dc3 pm3 cd3 ct3 : Value} {f3 : Addr}
    {od4 an4 : Option Addr} {sl4 : Array (Option Value)} {oc4 kV4 dc4 pm4 cd4 ct4 : Value} {f4 : Addr}
    {od5 an5 : Option Addr} {sl5 : Array (Option Value)} {oc5 kV5 dc5 pm5 cd5 ct5 : Value} {f5 : Addr}
    {od6 an6 : Option Addr} {sl6 : Array (Option Value)} {oc6 kV6 dc6 pm6 cd6 ct6 : Value} {f6 : Addr}
    {od7 an7 : Option Addr} {sl7 : Array (Option Value)} {oc7 kV7 dc7 pm7 cd7 ct7 : Value} {f7 : Addr}
    {od8 an8 : Option Addr} {sl8 : Array (Option Value)} {oc8 kV8 dc8 pm8 cd8 ct8 : Value} {f8 : Addr}
    {od9 an9 : Option Addr} {sl9 : Array (Option Value)} {oc9 kV9 dc9 pm9 cd9 ct9 : Value} {f9 : Addr}
    {od10 an10 : Option Addr} {sl10 : Array (Option Value)} {oc10 kV10 dc10 pm10 cd10 ct10 : Value} {f10 : Addr}
    {od11 an11 : Option Addr} {sl11 : Array (Option Value)} {oc11 kV11 dc11 pm11 cd11 ct11 : Value} {f11 : Addr}
    {od12 an12 : Option Addr} {sl12 : Array (Option Value)} {oc12 kV12 dc12 pm12 cd12 ct12 : Value} {f12 : Addr}
    {od13 an13 : Option Addr} {sl13 : Array (Option Value)} {oc13 kV13 dc13 pm13 cd13 ct13 : Value} {f13 : Addr}
    {od14 an14 : Option Addr} {sl14 : Array (Option Value)} {oc14 kV14 dc14 pm14 cd14 ct14 : Value} {f14 : Addr}
    {od15 an15 : Option Addr} {sl15 : Array (Option Value)} {oc15 kV15 dc15 pm15 cd15 ct15 : Value} {f15 : Addr}
    {od16 an16 cd_16 ccd16 : Option Addr} {sl16 cs_16 ccs16 : Array (Option Value)} {oc16 kV16 dc16 pm16 ct16 cv16 ccv16 : Value} {f16 cc16 ca16 : Addr} {vs16 : Array Value} {file16 : Str} {tf16 : Tok}
    {od17 an17 : Option Addr} {sl17 : Array (Option Value)} {oc17 kV17 dc17 pm17 cd17 ct17 : Value} {f17 : Addr}
    {od18 an18 : Option Addr} {sl18 : Array (Option Value)} {oc18 kV18 dc18 pm18 cd18 ct18 : Value} {f18 : Addr}
    {od19 an19 : Option Addr} {sl19 : Array (Option Value)} {oc19 kV19 dc19 pm19 cd19 ct19 : Value} {f19 : Addr}
    {od20 an20 : Option Addr} {sl20 : Array (Option Value)} {oc20 kV20 dc20 pm20 cd20 ct20 : Value} {f20 : Addr}
    {od21 an21 : Option Addr} {sl21 : Array (Option Value)} {oc21 kV21 dc21 pm21 cd21 ct21 : Value} {f21 : Addr}
    {od22 an22 : Option Addr} {sl22 : Array (Option Value)} {oc22 kV22 dc22 pm22 cd22 ct22 : Value} {f22 : Addr}
    {od23 an23 : Option Addr} {sl23 : Array (Option Value)} {oc23 kV23 dc23 pm23 cd23 ct23 : Value} {f23 : Addr}
    {od24 an24 : Option Addr} {sl24 : Array (Option Value)} {oc24 kV24 dc24 pm24 cd24 ct24 : Value} {f24 : Addr}
    {C_BadGroup : Addr}
    {cdat_PowerGroup : ClassData}
    (gc_Group : PySem.W.nsIn K mainGlobals "Group" = some (some (.ref C_Group)))
    (gc_PowerGroup : PySem.W.nsIn K mainGlobals "PowerGroup" = some (some (.ref C_PowerGroup)))
    (a0 : PySem.W.nsIn K mainGlobals "_law_box" = some (some (.ref f0)))
    (l0 : K.lookup f0 = some ⟨oc0, od0, .func (PySem.W.fnOf "_law_box" "_law_box" (defArgs s__law_box) (defBody s__law_box) (defScope s__law_box) .none kV0 dc0 pm0 an0 cd0 ct0), sl0⟩)
    (c0 : PySem.W.codeIn K cd0 "_law_box" = true)
    (k0 : PySem.W.keepIn K (.ref f0) = true)
    (a1 : PySem.W.nsIn K mainGlobals "_law_mix" = some (some (.ref f1)))
    (l1 : K.lookup f1 = some ⟨oc1, od1, .func (PySem.W.fnOf "_law_mix" "_law_mix" (defArgs s__law_mix) (defBody s__law_mix) (defScope s__law_mix) .none kV1 dc1 pm1 an1 cd1 ct1), sl1⟩)
    (c1 : PySem.W.codeIn K cd1 "_law_mix" = true)
    (k1 : PySem.W.keepIn K (.ref f1) = true)
    (a2 : PySem.W.nsIn K mainGlobals "_law_draw" = some (some (.ref f2)))
    (l2 : K.lookup f2 = some ⟨oc2, od2, .func (PySem.W.fnOf "_law_draw" "_law_draw" (defArgs s__law_draw) (defBody s__law_draw) (defScope s__law_draw) .none kV2 dc2 pm2 an2 cd2 ct2), sl2⟩)
    (c2 : PySem.W.codeIn K cd2 "_law_draw" = true)
    (k2 : PySem.W.keepIn K (.ref f2) = true)
    (a3 : PySem.W.nsIn K mainGlobals "_law_is_prime" = some (some (.ref f3)))
    (l3 : K.lookup f3 = some ⟨oc3, od3, .func (PySem.W.fnOf "_law_is_prime" "_law_is_prime" (defArgs s__law_is_prime) (defBody s__law_is_prime) (defScope s__law_is_prime) .none kV3 dc3 pm3 an3 cd3 ct3), sl3⟩)
    (c3 : PySem.W.codeIn K cd3 "_law_is_prime" = true)
    (k3 : PySem.W.keepIn K (.ref f3) = true)
    (a4 : PySem.W.nsIn K mainGlobals "_law_prime" = some (some (.ref f4)))
    (l4 : K.lookup f4 = some ⟨oc4, od4, .func (PySem.W.fnOf "_law_prime" "_law_prime" (defArgs s__law_prime) (defBody s__law_prime) (defScope s__law_prime) .none kV4 dc4 pm4 an4 cd4 ct4), sl4⟩)
    (c4 : PySem.W.codeIn K cd4 "_law_prime" = true)
    (k4 : PySem.W.keepIn K (.ref f4) = true)
    (a5 : PySem.W.nsIn K mainGlobals "_law_modulus" = some (some (.ref f5)))
    (l5 : K.lookup f5 = some ⟨oc5, od5, .func (PySem.W.fnOf "_law_modulus" "_law_modulus" (defArgs s__law_modulus) (defBody s__law_modulus) (defScope s__law_modulus) .none kV5 dc5 pm5 an5 cd5 ct5), sl5⟩)
    (c5 : PySem.W.codeIn K cd5 "_law_modulus" = true)
    (k5 : PySem.W.keepIn K (.ref f5) = true)
    (a6 : PySem.W.nsIn K mainGlobals "_law_alike" = some (some (.ref f6)))
    (l6 : K.lookup f6 = some ⟨oc6, od6, .func (PySem.W.fnOf "_law_alike" "_law_alike" (defArgs s__law_alike) (defBody s__law_alike) (defScope s__law_alike) .none kV6 dc6 pm6 an6 cd6 ct6), sl6⟩)
    (c6 : PySem.W.codeIn K cd6 "_law_alike" = true)
    (k6 : PySem.W.keepIn K (.ref f6) = true)
    (a7 : PySem.W.nsIn K mainGlobals "_law_to" = some (some (.ref f7)))
    (l7 : K.lookup f7 = some ⟨oc7, od7, .func (PySem.W.fnOf "_law_to" "_law_to" (defArgs s__law_to) (defBody s__law_to) (defScope s__law_to) .none kV7 dc7 pm7 an7 cd7 ct7), sl7⟩)
    (c7 : PySem.W.codeIn K cd7 "_law_to" = true)
    (k7 : PySem.W.keepIn K (.ref f7) = true)
    (a8 : PySem.W.nsIn K mainGlobals "_law_powers" = some (some (.ref f8)))
    (l8 : K.lookup f8 = some ⟨oc8, od8, .func (PySem.W.fnOf "_law_powers" "_law_powers" (defArgs s__law_powers) (defBody s__law_powers) (defScope s__law_powers) .none kV8 dc8 pm8 an8 cd8 ct8), sl8⟩)
    (c8 : PySem.W.codeIn K cd8 "_law_powers" = true)
    (k8 : PySem.W.keepIn K (.ref f8) = true)
    (a9 : PySem.W.nsIn K mainGlobals "_law_members" = some (some (.ref f9)))
    (l9 : K.lookup f9 = some ⟨oc9, od9, .func (PySem.W.fnOf "_law_members" "_law_members" (defArgs s__law_members) (defBody s__law_members) (defScope s__law_members) .none kV9 dc9 pm9 an9 cd9 ct9), sl9⟩)
    (c9 : PySem.W.codeIn K cd9 "_law_members" = true)
    (k9 : PySem.W.keepIn K (.ref f9) = true)
    (a10 : PySem.W.findIn K (.ref C_Group) "power" = some (some (.ref f10)))
    (l10 : K.lookup f10 = some ⟨oc10, od10, .func (PySem.W.fnOf "power" "Group.power" (defArgs s_Group_power) (defBody s_Group_power) (defScope s_Group_power) .none kV10 dc10 pm10 an10 cd10 ct10), sl10⟩)
    (c10 : PySem.W.codeIn K cd10 "Group.power" = true)
    (k10 : PySem.W.keepIn K (.ref f10) = true)
    (a11 : PySem.W.findIn K (.ref C_Group) "inverse_of" = some (some (.ref f11)))
    (l11 : K.lookup f11 = some ⟨oc11, od11, .func (PySem.W.fnOf "inverse_of" "Group.inverse_of" (defArgs s_Group_inverse_of) (defBody s_Group_inverse_of) (defScope s_Group_inverse_of) .none kV11 dc11 pm11 an11 cd11 ct11), sl11⟩)
    (c11 : PySem.W.codeIn K cd11 "Group.inverse_of" = true)
    (k11 : PySem.W.keepIn K (.ref f11) = true)
    (a12 : PySem.W.findIn K (.ref C_Group) "has" = some (some (.ref f12)))
    (l12 : K.lookup f12 = some ⟨oc12, od12, .func (PySem.W.fnOf "has" "Group.has" (defArgs s_Group_has) (defBody s_Group_has) (defScope s_Group_has) .none kV12 dc12 pm12 an12 cd12 ct12), sl12⟩)
    (c12 : PySem.W.codeIn K cd12 "Group.has" = true)
    (k12 : PySem.W.keepIn K (.ref f12) = true)
    (a13 : PySem.W.nsIn K mainGlobals "is_prime" = some (some (.ref f13)))
    (l13 : K.lookup f13 = some ⟨oc13, od13, .func (PySem.W.fnOf "is_prime" "is_prime" (defArgs s_is_prime) (defBody s_is_prime) (defScope s_is_prime) .none kV13 dc13 pm13 an13 cd13 ct13), sl13⟩)
    (c13 : PySem.W.codeIn K cd13 "is_prime" = true)
    (k13 : PySem.W.keepIn K (.ref f13) = true)
    (a14 : PySem.W.nsIn K mainGlobals "_member_of_order" = some (some (.ref f14)))
    (l14 : K.lookup f14 = some ⟨oc14, od14, .func (PySem.W.fnOf "_member_of_order" "_member_of_order" (defArgs s__member_of_order) (defBody s__member_of_order) (defScope s__member_of_order) .none kV14 dc14 pm14 an14 cd14 ct14), sl14⟩)
    (c14 : PySem.W.codeIn K cd14 "_member_of_order" = true)
    (k14 : PySem.W.keepIn K (.ref f14) = true)
    (a15 : PySem.W.findIn K (.ref C_Group) "__init__" = some (some (.ref f15)))
    (l15 : K.lookup f15 = some ⟨oc15, od15, .func (PySem.W.fnOf "__init__" "Group.__init__" (defArgs s_Group___init__) (defBody s_Group___init__) (defScope s_Group___init__) .none kV15 dc15 pm15 an15 cd15 ct15), sl15⟩)
    (c15 : PySem.W.codeIn K cd15 "Group.__init__" = true)
    (k15 : PySem.W.keepIn K (.ref f15) = true)
    (a16 : PySem.W.findIn K (.ref C_PowerGroup) "__init__" = some (some (.ref f16)))
    (l16 : K.lookup f16 = some ⟨oc16, od16, .func (PySem.W.fnX "__init__" "PowerGroup.__init__" (defArgs s_PowerGroup___init__) (defBody s_PowerGroup___init__) (defScope s_PowerGroup___init__) [("__class__", cc16)] .none kV16 dc16 pm16 an16 (.ref ca16) ct16), sl16⟩)
    (c16 : PySem.W.codeIn K (.ref ca16) "PowerGroup.__init__" = true)
    (k16 : PySem.W.keepIn K (.ref f16) = true)
    (hcc16 : K.lookup cc16 = some ⟨ccv16, ccd16, .cell (some (.ref C_PowerGroup)), ccs16⟩)
    (hco16 : K.lookup ca16 = some ⟨cv16, cd_16, .fields vs16, cs_16⟩)
    (hcv16 : vs16[2]? = some (.str file16 tf16))
    (hcf16 : ((l.prog.main.file : Str) == file16) = true)
    (a17 : PySem.W.findIn K (.ref C_PowerGroup) "multiply" = some (some (.ref f17)))
    (l17 : K.lookup f17 = some ⟨oc17, od17, .func (PySem.W.fnOf "multiply" "PowerGroup.multiply" (defArgs s_PowerGroup_multiply) (defBody s_PowerGroup_multiply) (defScope s_PowerGroup_multiply) .none kV17 dc17 pm17 an17 cd17 ct17), sl17⟩)
    (c17 : PySem.W.codeIn K cd17 "PowerGroup.multiply" = true)
    (k17 : PySem.W.keepIn K (.ref f17) = true)
    (a18 : PySem.W.nsIn K mainGlobals "_law_right" = some (some (.ref f18)))
    (l18 : K.lookup f18 = some ⟨oc18, od18, .func (PySem.W.fnOf "_law_right" "_law_right" (defArgs s__law_right) (defBody s__law_right) (defScope s__law_right) .none kV18 dc18 pm18 an18 cd18 ct18), sl18⟩)
    (c18 : PySem.W.codeIn K cd18 "_law_right" = true)
    (k18 : PySem.W.keepIn K (.ref f18) = true)
    (a19 : PySem.W.nsIn K mainGlobals "_law_is_refused" = some (some (.ref f19)))
    (l19 : K.lookup f19 = some ⟨oc19, od19, .func (PySem.W.fnOf "_law_is_refused" "_law_is_refused" (defArgs s__law_is_refused) (defBody s__law_is_refused) (defScope s__law_is_refused) .none kV19 dc19 pm19 an19 cd19 ct19), sl19⟩)
    (c19 : PySem.W.codeIn K cd19 "_law_is_refused" = true)
    (k19 : PySem.W.keepIn K (.ref f19) = true)
    (a20 : PySem.W.nsIn K mainGlobals "_law_composite" = some (some (.ref f20)))
    (l20 : K.lookup f20 = some ⟨oc20, od20, .func (PySem.W.fnOf "_law_composite" "_law_composite" (defArgs s__law_composite) (defBody s__law_composite) (defScope s__law_composite) .none kV20 dc20 pm20 an20 cd20 ct20), sl20⟩)
    (c20 : PySem.W.codeIn K cd20 "_law_composite" = true)
    (k20 : PySem.W.keepIn K (.ref f20) = true)
    (a21 : PySem.W.nsIn K mainGlobals "_law_beyond" = some (some (.ref f21)))
    (l21 : K.lookup f21 = some ⟨oc21, od21, .func (PySem.W.fnOf "_law_beyond" "_law_beyond" (defArgs s__law_beyond) (defBody s__law_beyond) (defScope s__law_beyond) .none kV21 dc21 pm21 an21 cd21 ct21), sl21⟩)
    (c21 : PySem.W.codeIn K cd21 "_law_beyond" = true)
    (k21 : PySem.W.keepIn K (.ref f21) = true)
    (a22 : PySem.W.nsIn K mainGlobals "_law_wrong_orders" = some (some (.ref f22)))
    (l22 : K.lookup f22 = some ⟨oc22, od22, .func (PySem.W.fnOf "_law_wrong_orders" "_law_wrong_orders" (defArgs s__law_wrong_orders) (defBody s__law_wrong_orders) (defScope s__law_wrong_orders) .none kV22 dc22 pm22 an22 cd22 ct22), sl22⟩)
    (c22 : PySem.W.codeIn K cd22 "_law_wrong_orders" = true)
    (k22 : PySem.W.keepIn K (.ref f22) = true)
    (a23 : PySem.W.nsIn K mainGlobals "_law_great_order" = some (some (.ref f23)))
    (l23 : K.lookup f23 = some ⟨oc23, od23, .func (PySem.W.fnOf "_law_great_order" "_law_great_order" (defArgs s__law_great_order) (defBody s__law_great_order) (defScope s__law_great_order) .none kV23 dc23 pm23 an23 cd23 ct23), sl23⟩)
    (c23 : PySem.W.codeIn K cd23 "_law_great_order" = true)
    (k23 : PySem.W.keepIn K (.ref f23) = true)
    (a24 : PySem.W.nsIn K mainGlobals "law" = some (some (.ref f24)))
    (l24 : K.lookup f24 = some ⟨oc24, od24, .func (PySem.W.fnOf "law" "law" (defArgs s_law) (defBody s_law) (defScope s_law) .none kV24 dc24 pm24 an24 cd24 ct24), sl24⟩)
    (c24 : PySem.W.codeIn K cd24 "law" = true)
    (k24 : PySem.W.keepIn K (.ref f24) = true)
    (gc_BadGroup : PySem.W.nsIn K mainGlobals "BadGroup" = some (some (.ref C_BadGroup)))
    (k_BadGroup : PySem.W.keepIn K (.ref C_BadGroup) = true)
    (q_BadGroup : PySem.W.excIn K C_BadGroup [.type "ValueError", .type "Exception", .type "BaseException", .type "object"] "ValueError.__new__" = true)
    (b_BadGroup : PySem.W.subIn K (.ref C_BadGroup) (.type "BaseException") = some true)
    (t_BadGroup : PySem.W.typeIn K (.ref C_BadGroup) = some (.type "type"))
    (ehg_BadGroup : PySem.W.findIn K (.ref C_BadGroup) "__getattribute__" = some (some (.builtin "BaseException.__getattribute__")))
    (ehk_BadGroup : PySem.W.findIn K (.ref C_BadGroup) "__getattr__" = some none)
    (ehs_BadGroup : PySem.W.subIn K (.ref C_BadGroup) (.type "BaseException") = some true)
    (ehd_BadGroup : PySem.W.hasDictIn K C_BadGroup = true)
    (eha_BadGroup : PySem.W.findIn K (.ref C_BadGroup) "__class__" = some (some (.builtin "object.__class__")))
    (ehm_BadGroup : PySem.W.mroIn K C_BadGroup (.type "object") = some true)
    (cdt_PowerGroup : PySem.W.clsIn K C_PowerGroup = some cdat_PowerGroup)
    (top_super : (l.prog.main.scope.names.lookup ("super" : Str)).isSome = false)
    (opq : PySem.W.nsIn K cStatics "thirdparty.any" = some none)
    (z_super : PySem.W.nsIn K mainGlobals "super" = some none)
    (mk1_PowerGroup : PySem.W.makesIn K C_PowerGroup = true)
    (mk2_PowerGroup : PySem.W.findIn K (.ref C_PowerGroup) "__init__" = some (some (.ref f16)))
    (mk3_PowerGroup : PySem.W.isFn K (.ref f16) = true)
    (mk4_PowerGroup : PySem.W.keepIn K (.ref C_PowerGroup) = true)
    (pg_PowerGroup : PySem.W.plainGet K C_PowerGroup Str.empty = true)
    (hd_PowerGroup : PySem.W.hasDictIn K C_PowerGroup = true)
    (po_PowerGroup : PySem.W.plainOver K C_PowerGroup = true)
    (sa_PowerGroup : PySem.W.findIn K (.ref C_PowerGroup) "__setattr__" = some (some (.builtin "object.__setattr__")))
    (na_PowerGroup__exponents : PySem.W.findIn K (.ref C_PowerGroup) "_exponents" = some none)
    (na_PowerGroup__powers : PySem.W.findIn K (.ref C_PowerGroup) "_powers" = some none)
    (na_PowerGroup_members : PySem.W.findIn K (.ref C_PowerGroup) "members" = some none)
    (na_PowerGroup_modulus : PySem.W.findIn K (.ref C_PowerGroup) "modulus" = some none)
    (na_PowerGroup_order : PySem.W.findIn K (.ref C_PowerGroup) "order" = some none)
    (na_PowerGroup_unit : PySem.W.findIn K (.ref C_PowerGroup) "unit" = some none)
    (mt1_PowerGroup_has : PySem.W.findIn K (.ref C_PowerGroup) "has" = some (some (.ref f12)))
    (mt2_PowerGroup_has : PySem.W.isFn K (.ref f12) = true)
    (mt3_PowerGroup_has : PySem.W.keepIn K (.ref f12) = true)
    (mt1_PowerGroup_inverse_of : PySem.W.findIn K (.ref C_PowerGroup) "inverse_of" = some (some (.ref f11)))
    (mt2_PowerGroup_inverse_of : PySem.W.isFn K (.ref f11) = true)
    (mt3_PowerGroup_inverse_of : PySem.W.keepIn K (.ref f11) = true)
    (mt1_PowerGroup_multiply : PySem.W.findIn K (.ref C_PowerGroup) "multiply" = some (some (.ref f17)))
    (mt2_PowerGroup_multiply : PySem.W.isFn K (.ref f17) = true)
    (mt3_PowerGroup_multiply : PySem.W.keepIn K (.ref f17) = true)
    (mt1_PowerGroup_power : PySem.W.findIn K (.ref C_PowerGroup) "power" = some (some (.ref f10)))
    (mt2_PowerGroup_power : PySem.W.isFn K (.ref f10) = true)
    (mt3_PowerGroup_power : PySem.W.keepIn K (.ref f10) = true)
    (su1_PowerGroup_PowerGroup : PySem.W.mroIn K C_PowerGroup (.ref C_PowerGroup) = some true)
    (su2_PowerGroup_PowerGroup___init__ : PySem.W.ks_superIn K C_PowerGroup C_PowerGroup "__init__" = some (some (.ref f15)))
    (su3_PowerGroup_PowerGroup___init__ : PySem.W.typeIn K (.ref f15) = some (.type "function"))
    (su4_PowerGroup_PowerGroup___init__ : PySem.W.fnIn K f15 = true)
    (ki_PowerGroup_Group : PySem.W.kitOne K (.ref C_PowerGroup) (.ref C_Group) = some true)
    (ica_PowerGroup : PySem.W.findIn K (.ref C_PowerGroup) "__class__" = some (some (.builtin "object.__class__")))
    (ico_PowerGroup : PySem.W.mroIn K C_PowerGroup (.type "object") = some true)
    (ihn : PySem.W.specialIn K (.builtin "object.__class__") "__get__" = some (some (.builtin "getset_descriptor.__get__")))
    (iht : PySem.W.takesIn K (.builtin "object.__class__") = some true)
    (ehn : PySem.W.specialIn K (.builtin "object.__class__") "__get__" = some (some (.builtin "getset_descriptor.__get__")))
    (eht : PySem.W.takesIn K (.builtin "object.__class__") = some true)
    (x_BadGroup_BadGroup : PySem.W.exmOne K (.ref C_BadGroup) (.ref C_BadGroup) = some true)
    (z_all : PySem.W.nsIn K mainGlobals "all" = some none)
    (z_bool : PySem.W.nsIn K mainGlobals "bool" = some none)
    (z_enumerate : PySem.W.nsIn K mainGlobals "enumerate" = some none)
    (z_int : PySem.W.nsIn K mainGlobals "int" = some none)
    (z_isinstance : PySem.W.nsIn K mainGlobals "isinstance" = some none)
    (z_len : PySem.W.nsIn K mainGlobals "len" = some none)
    (z_list : PySem.W.nsIn K mainGlobals "list" = some none)
    (z_range : PySem.W.nsIn K mainGlobals "range" = some none)
    (z_sorted : PySem.W.nsIn K mainGlobals "sorted" = some none)
    (z_str : PySem.W.nsIn K mainGlobals "str" = some none)
    (z_tuple : PySem.W.nsIn K mainGlobals "tuple" = some none)
    (nl : noList K = true)
    (hv : ∀ ns : List Int, ns.length ≤ 63 → ∃ ps, d_law [.d (.lst (ns.map D.int))] = .ok (.d (.bl true)) ps) :
    ∃ fd : FuncData, (∀ (s : Shared) (v : Value), BindsTo s fd ⟨[v], []⟩ [("script", v)]) ∧ ∀ base : Heap, K.In base → base.Ns mainGlobals mg → FnOk l.prog w K mg base (L2.CX l.prog w) 10 fa fd ["script"] (spLaw K) := by
  have e := hfa.symm.trans (PySem.W.mg_of X G a24)
  cases e
  let Fx : Facts l.prog K mg := { a__law_box := f0, fd__law_box := _, F__law_box := fun_mk (st := s__law_box) l0 c0 k0, g__law_box := PySem.W.mg_of X G a0, a__law_mix := f1, fd__law_mix := _, F__law_mix := fun_mk (st := s__law_mix) l1 c1 k1, g__law_mix := PySem.W.mg_of X G a1, a__law_draw := f2, fd__law_draw := _, F__law_draw := fun_mk (st := s__law_draw) l2 c2 k2, g__law_draw := PySem.W.mg_of X G a2, a__law_is_prime := f3, fd__law_is_prime := _, F__law_is_prime := fun_mk (st := s__law_is_prime) l3 c3 k3, g__law_is_prime := PySem.W.mg_of X G a3, a__law_prime := f4, fd__law_prime := _, F__law_prime := fun_mk (st := s__law_prime) l4 c4 k4, g__law_prime := PySem.W.mg_of X G a4, a__law_modulus := f5, fd__law_modulus := _, F__law_modulus := fun_mk (st := s__law_modulus) l5 c5 k5, g__law_modulus := PySem.W.mg_of X G a5, a__law_alike := f6, fd__law_alike := _, F__law_alike := fun_mk (st := s__law_alike) l6 c6 k6, g__law_alike := PySem.W.mg_of X G a6, a__law_to := f7, fd__law_to := _, F__law_to := fun_mk (st := s__law_to) l7 c7 k7, g__law_to := PySem.W.mg_of X G a7, a__law_powers := f8, fd__law_powers := _, F__law_powers := fun_mk (st := s__law_powers) l8 c8 k8, g__law_powers := PySem.W.mg_of X G a8, a__law_members := f9, fd__law_members := _, F__law_members := fun_mk (st := s__law_members) l9 c9 k9, g__law_members := PySem.W.mg_of X G a9, a_Group_power := f10, fd_Group_power := _, F_Group_power := fun_mk (st := s_Group_power) l10 c10 k10, a_Group_inverse_of := f11, fd_Group_inverse_of := _, F_Group_inverse_of := fun_mk (st := s_Group_inverse_of) l11 c11 k11, a_Group_has := f12, fd_Group_has := _, F_Group_has := fun_mk (st := s_Group_has) l12 c12 k12, a_is_prime := f13, fd_is_prime := _, F_is_prime := fun_mk (st := s_is_prime) l13 c13 k13, g_is_prime := PySem.W.mg_of X G a13, a__member_of_order := f14, fd__member_of_order := _, F__member_of_order := fun_mk (st := s__member_of_order) l14 c14 k14, g__member_of_order := PySem.W.mg_of X G a14, a_Group___init__ := f15, fd_Group___init__ := _, F_Group___init__ := fun_mk (st := s_Group___init__) l15 c15 k15, a_PowerGroup___init__ := f16, cc_PowerGroup___init__ := cc16, ca_PowerGroup___init__ := ca16, fd_PowerGroup___init__ := _, F_PowerGroup___init__ := ⟨⟨_, _, _, _, _, _, _, _, rfl, l16, c16⟩, k16⟩, hce_PowerGroup___init__ := ⟨_, _, _, hcc16⟩, hco_PowerGroup___init__ := ⟨_, _, _, _, _, _, hco16, hcv16, hcf16⟩, a_PowerGroup_multiply := f17, fd_PowerGroup_multiply := _, F_PowerGroup_multiply := fun_mk (st := s_PowerGroup_multiply) l17 c17 k17, a__law_right := f18, fd__law_right := _, F__law_right := fun_mk (st := s__law_right) l18 c18 k18, g__law_right := PySem.W.mg_of X G a18, a__law_is_refused := f19, fd__law_is_refused := _, F__law_is_refused := fun_mk (st := s__law_is_refused) l19 c19 k19, g__law_is_refused := PySem.W.mg_of X G a19, a__law_composite := f20, fd__law_composite := _, F__law_composite := fun_mk (st := s__law_composite) l20 c20 k20, g__law_composite := PySem.W.mg_of X G a20, a__law_beyond := f21, fd__law_beyond := _, F__law_beyond := fun_mk (st := s__law_beyond) l21 c21 k21, g__law_beyond := PySem.W.mg_of X G a21, a__law_wrong_orders := f22, fd__law_wrong_orders := _, F__law_wrong_orders := fun_mk (st := s__law_wrong_orders) l22 c22 k22, g__law_wrong_orders := PySem.W.mg_of X G a22, a__law_great_order := f23, fd__law_great_order := _, F__law_great_order := fun_mk (st := s__law_great_order) l23 c23 k23, g__law_great_order := PySem.W.mg_of X G a23, a_law := fa, fd_law := _, F_law := fun_mk (st := s_law) l24 c24 k24, g_law := PySem.W.mg_of X G a24, C_BadGroup := C_BadGroup, gc_BadGroup := PySem.W.mg_of X G gc_BadGroup, k_BadGroup := k_BadGroup, q_BadGroup := q_BadGroup, b_BadGroup := b_BadGroup, t_BadGroup := t_BadGroup, e_BadGroup := ⟨ehg_BadGroup, ehk_BadGroup, ehs_BadGroup, ehd_BadGroup, eha_BadGroup, ehn, eht, ehm_BadGroup⟩, C_Group := C_Group, gc_Group := PySem.W.mg_of X G gc_Group, C_PowerGroup := C_PowerGroup, gc_PowerGroup := PySem.W.mg_of X G gc_PowerGroup, cdt_PowerGroup := ⟨_, cdt_PowerGroup⟩, top_super := top_super, opq := opq, z_super := PySem.W.mg_none_of X G z_super, mk_PowerGroup := ⟨mk1_PowerGroup, mk2_PowerGroup, mk3_PowerGroup, mk4_PowerGroup⟩, cls_PowerGroup := ⟨pg_PowerGroup, hd_PowerGroup, po_PowerGroup, sa_PowerGroup⟩, na_PowerGroup__exponents := na_PowerGroup__exponents, na_PowerGroup__powers := na_PowerGroup__powers, na_PowerGroup_members := na_PowerGroup_members, na_PowerGroup_modulus := na_PowerGroup_modulus, na_PowerGroup_order := na_PowerGroup_order, na_PowerGroup_unit := na_PowerGroup_unit, mt_PowerGroup_has := ⟨mt1_PowerGroup_has, mt2_PowerGroup_has, mt3_PowerGroup_has⟩, mt_PowerGroup_inverse_of := ⟨mt1_PowerGroup_inverse_of, mt2_PowerGroup_inverse_of, mt3_PowerGroup_inverse_of⟩, mt_PowerGroup_multiply := ⟨mt1_PowerGroup_multiply, mt2_PowerGroup_multiply, mt3_PowerGroup_multiply⟩, mt_PowerGroup_power := ⟨mt1_PowerGroup_power, mt2_PowerGroup_power, mt3_PowerGroup_power⟩, sup_PowerGroup_PowerGroup___init__ := ⟨su1_PowerGroup_PowerGroup, su2_PowerGroup_PowerGroup___init__, su3_PowerGroup_PowerGroup___init__, su4_PowerGroup_PowerGroup___init__⟩, ki_PowerGroup_Group := ki_PowerGroup_Group, ica_PowerGroup := ica_PowerGroup, ico_PowerGroup := ico_PowerGroup, ihn := ihn, iht := iht, x_BadGroup_BadGroup := x_BadGroup_BadGroup, z_all := PySem.W.mg_none_of X G z_all, z_bool := PySem.W.mg_none_of X G z_bool, z_enumerate := PySem.W.mg_none_of X G z_enumerate, z_int := PySem.W.mg_none_of X G z_int, z_isinstance := PySem.W.mg_none_of X G z_isinstance, z_len := PySem.W.mg_none_of X G z_len, z_list := PySem.W.mg_none_of X G z_list, z_range := PySem.W.mg_none_of X G z_range, z_sorted := PySem.W.mg_none_of X G z_sorted, z_str := PySem.W.mg_none_of X G z_str, z_tuple := PySem.W.mg_none_of X G z_tuple }
  exact ⟨Fx.fd_law, fun s v => .of_eq rfl, fun base _ _ => (ok_law (P := l.prog) (w := w) (base := base) Fx).imp (top_imp nl hv)⟩
end K05

/-! MXs: reckoning denotations out. -/
namespace MX
open PySem L2
section
variable {α β : Type} {e e1 : En} {x : α} {c : String} {ps : List (Str × D)} {i j : Int} {b : Bool}
@[simp] theorem z1 {f : α → En → Rs β} : (Rs.ok x e).bind f = f x e := Eq.trans rfl rfl
@[simp] theorem z2 {f : α → En → Rs β} : (Rs.exc c ps e : Rs α).bind f = .exc c ps e := Eq.trans rfl rfl
@[simp] theorem z3 {f : α → En → Rs β} : (Rs.bad : Rs α).bind f = .bad := Eq.trans rfl rfl
@[simp] theorem z4 {f : α → En → Out} : (Rs.ok x e).out f = f x e := Eq.trans rfl rfl
@[simp] theorem z5 {f : α → En → Out} : (Rs.exc c ps e : Rs α).out f = .exc c ps e := Eq.trans rfl rfl
@[simp] theorem z6 {f : α → En → Out} : (Rs.bad : Rs α).out f = .bad := Eq.trans rfl rfl
@[simp] theorem z7 {f : En → Out} : (Out.nx e).andThen f = f e := Eq.trans rfl rfl
@[simp] theorem z8 {o : O} {f : En → Out} : (Out.rt o e).andThen f = .rt o e := Eq.trans rfl rfl
@[simp] theorem z9 {f : En → Out} : (Out.exc c ps e).andThen f = .exc c ps e := Eq.trans rfl rfl
@[simp] theorem z10 {f : En → Out} : (Out.bk e).andThen f = .bk e := Eq.trans rfl rfl
@[simp] theorem z11 {f : En → Out} : (Out.ct e).andThen f = .ct e := Eq.trans rfl rfl
@[simp] theorem z12 {f : En → Out} : (Out.bad).andThen f = .bad := Eq.trans rfl rfl
@[simp] theorem z13 {x : D} : dC x e = .ok (.d x) e := Eq.trans rfl rfl
@[simp] theorem z14 {d : En → Rs O} : vT d e = (d e).bind fun o e1 => .ok (.t o) e1 := Eq.trans rfl rfl
@[simp] theorem z15 {n : Nat} : vS n e = match slot e n with | some _ => .ok (.s n) e | none => .bad := Eq.trans rfl rfl
@[simp] theorem z16 {o : O} : Ar.get e (.t o) = some o := Eq.trans rfl rfl
@[simp] theorem z17 {n : Nat} : Ar.get e (.s n) = slot e n := Eq.trans rfl rfl
@[simp] theorem z18 {z : O} : fin (some z) e = .ok z e := Eq.trans rfl rfl
@[simp] theorem z19 : fin none e = .bad := Eq.trans rfl rfl
def bin2 (f : O → O → Option O) (a b : Option O) (e : En) : Rs O := match a, b with
  | some a, some b => fin (f a b) e
  | _, _ => .bad
@[simp] theorem z20 {f : O → O → Option O} {a b : O} : bin2 f (some a) (some b) e = fin (f a b) e := Eq.trans rfl rfl
@[simp] theorem z21 {f : O → O → Option O} {da db : En → Rs Ar} : dBin f da db e = (da e).bind fun x e1 => (db e1).bind fun y e2 => bin2 f (x.get e2) (y.get e2) e2 := Eq.trans rfl rfl
@[simp] theorem z22 {f : O → Option O} {da : En → Rs Ar} : dUn f da e = (da e).bind fun x e1 => match x.get e1 with
  | some a => fin (f a) e1
  | none => .bad := Eq.trans rfl rfl
@[simp] theorem z23 {d : En → Rs O} : dTst d e = (d e).bind fun o e1 => match o with
  | .d (.bl b) => .ok b e1
  | _ => .bad := Eq.trans rfl rfl
@[simp] theorem z24 {a b : En → Rs Bool} : dAndT a b e = (a e).bind fun k e1 => if k = true then b e1 else .ok false e1 := Eq.trans rfl rfl
@[simp] theorem z25 {a b : En → Rs Bool} : dOrT a b e = (a e).bind fun k e1 => if k = true then .ok true e1 else b e1 := Eq.trans rfl rfl
@[simp] theorem z26 {a : En → Rs Bool} : dNotT a e = (a e).bind fun k e1 => .ok (!k) e1 := Eq.trans rfl rfl
@[simp] theorem z27 {a b : En → Rs O} : dAndV a b e = (dTst a e).bind fun k e1 => if k = true then b e1 else .ok (.d (.bl false)) e1 := Eq.trans rfl rfl
@[simp] theorem z28 {a b : En → Rs O} : dOrV a b e = (dTst a e).bind fun k e1 => if k = true then .ok (.d (.bl true)) e1 else b e1 := Eq.trans rfl rfl
@[simp] theorem z29 {a : En → Rs O} : dNotV a e = (dTst a e).bind fun k e1 => .ok (.d (.bl (!k))) e1 := Eq.trans rfl rfl
@[simp] theorem z30 {d : En → Rs Bool} {a b : En → Rs O} : dIf d a b e = (d e).bind fun k e1 => if k = true then a e1 else b e1 := Eq.trans rfl rfl
@[simp] theorem z31 : aNil e = .ok [] e := Eq.trans rfl rfl
@[simp] theorem z32 {d : En → Rs O} {r : En → Rs (List O)} : aCons d r e = (d e).bind fun o e1 => (r e1).bind fun os e2 => .ok (o :: os) e2 := Eq.trans rfl rfl
@[simp] theorem z33 {d : En → Rs (List O)} : dTup d e = (d e).bind fun os e1 => if os.length ≤ sizeLine then .ok (.d (.tup (fzs os))) e1 else .bad := Eq.trans rfl rfl
@[simp] theorem z34 {d : En → Rs (List O)} : dLst d e = (d e).bind fun os e1 => if os.length ≤ sizeLine then .ok (.lst os) e1 else .bad := Eq.trans rfl rfl
@[simp] theorem z35 {a : Ar} {as : List Ar} : gets e (a :: as) = match a.get e, gets e as with
  | some o, some os => some (o :: os)
  | _, _ => none := Eq.trans rfl rfl
@[simp] theorem z36 : gets e [] = some [] := Eq.trans rfl rfl
@[simp] theorem z37 : vNil e = .ok [] e := Eq.trans rfl rfl
@[simp] theorem z38 {d : En → Rs Ar} {r : En → Rs (List Ar)} : vCons d r e = (d e).bind fun x e1 => (r e1).bind fun xs e2 => .ok (x :: xs) e2 := Eq.trans rfl rfl
@[simp] theorem z39 {f : List O → Option O} {d : En → Rs (List Ar)} : dCall f d e = (d e).bind fun xs e1 => match gets e1 xs with
  | some os => fin (f os) e1
  | none => .bad := Eq.trans rfl rfl
@[simp] theorem z40 : sNext e = .nx e := Eq.trans rfl rfl
@[simp] theorem z41 {a b : En → Out} : sSeq a b e = (a e).andThen b := Eq.trans rfl rfl
@[simp] theorem z42 {d : En → Rs O} : sExpr d e = (d e).out fun _ e1 => .nx e1 := Eq.trans rfl rfl
@[simp] theorem z43 {d : En → Rs O} : sRet d e = (d e).out fun o e1 => .rt o e1 := Eq.trans rfl rfl
@[simp] theorem z44 {d : En → Rs Bool} {a b : En → Out} : sIf d a b e = (d e).out fun k e1 => if k = true then a e1 else b e1 := Eq.trans rfl rfl
def nxo : Option En → Out
  | some e => .nx e
  | none => .bad
@[simp] theorem z45 : nxo (some e) = .nx e := Eq.trans rfl rfl
theorem nxo_eq {x : Option En} : (match x with | some e2 => Out.nx e2 | none => .bad) = nxo x := by cases x <;> rfl
@[simp] theorem z46 {d : En → Rs O} {t : Tg} : sAsg d t e = (d e).out fun o e1 => nxo (t o e1) := Eq.trans rfl rfl
@[simp] theorem z47 {n : Nat} {o : O} : tName n o e = setS e n o := Eq.trans rfl rfl
@[simp] theorem z48 : tgNil [] e = some e := Eq.trans rfl rfl
@[simp] theorem z49 {a : Tg} {b : Tgs} {d : D} {ds : List D} : tgCons a b (d :: ds) e = (a (.d d) e).bind fun e1 => b ds e1 := Eq.trans rfl rfl
@[simp] theorem z50 {t : Tgs} {ds : List D} : tTupl t (.d (.tup ds)) e = t ds e := Eq.trans rfl rfl
@[simp] theorem z51 {m n : Nat} {d : En → Rs (List O)} : sPar m n d e = (d e).out fun os e1 => match os with
  | [a, b] => match setS e1 m a with
    | some e2 => match setS e2 n b with
      | some e3 => .nx e3
      | none => .bad
    | none => .bad
  | _ => .bad := Eq.trans rfl rfl
@[simp] theorem z52 {n : Nat} {f : O → O → Option O} {d : En → Rs Ar} : sAug n f d e = match slot e n with
  | some _ => (d e).out fun y e1 => match slot e1 n, y.get e1 with
    | some a, some b => match f a b with
      | some z => match setS e1 n z with
        | some e2 => .nx e2
        | none => .bad
      | none => .bad
    | _, _ => .bad
  | none => .bad := Eq.trans rfl rfl
@[simp] theorem z53 {it : En → Rs (List D)} {t : Tg} {b : En → Out} : sFor it t b e = (it e).out fun ds e1 => sForL t b ds e1 := Eq.trans rfl rfl
@[simp] theorem z54 {n : Nat} : gName n e = match slot e n with
  | some (.d x) => .ok (.d x, none) e
  | some o => .ok (o, some n) (lentS e n)
  | none => .bad := Eq.trans rfl rfl
@[simp] theorem z55 {d : En → Rs O} : gVal d e = (d e).bind fun o e1 => .ok (o, none) e1 := Eq.trans rfl rfl
@[simp] theorem z56 : cNil e = .ok [] e := Eq.trans rfl rfl
@[simp] theorem z57 {g : En → Rs Ag} {r : En → Rs (List Ag)} : cCons g r e = (g e).bind fun a e1 => (r e1).bind fun as e2 => .ok (a :: as) e2 := Eq.trans rfl rfl
@[simp] theorem z58 {a b : En → Rs (List Ag)} : cApp a b e = (a e).bind fun as e1 => (b e1).bind fun bs e2 => .ok (as ++ bs) e2 := Eq.trans rfl rfl
def callR (r : RF) (as : List Ag) (e1 : En) : Rs O := match r with
  | .ok o ps => match wb e1 as ps with
    | some e2 => .ok o e2
    | none => .bad
  | .exc c pl ps => match wb e1 as ps with
    | some e2 => .exc c pl e2
    | none => .bad
  | .bad => .bad
def okO (o : O) : Option En → Rs O
  | some e2 => .ok o e2
  | none => .bad
@[simp] theorem z59 {o : O} {qs : List (Option O)} {as : List Ag} : callR (.ok o qs) as e1 = okO o (wb e1 as qs) := by cases h : wb e1 as qs <;> simp [callR, okO, h]
@[simp] theorem z60 {o : O} : okO o (some e) = .ok o e := Eq.trans rfl rfl
def excO' (c : String) (pl : List (Str × D)) : Option En → Rs O
  | some e2 => .exc c pl e2
  | none => .bad
@[simp] theorem z61 {qs : List (Option O)} {as : List Ag} : callR (.exc c ps qs) as e1 = excO' c ps (wb e1 as qs) := by cases h : wb e1 as qs <;> simp [callR, excO', h]
@[simp] theorem z62 : excO' c ps (some e) = .exc c ps e := Eq.trans rfl rfl
@[simp] theorem z63 {den : Den} {p : List Nat} {g : En → Rs (List Ag)} : dCallF den p g e = (g e).bind fun as e1 => callR (den ((ord p as).map (·.1))) (ord p as) e1 := Eq.trans rfl rfl
@[simp] theorem z64 {o : O} {as : List Ag} {q : Option O} {qs : List (Option O)} : wb e ((o, none) :: as) (q :: qs) = wb e as qs := by cases q <;> rfl
@[simp] theorem z65 {q : List (Option O)} : wb e [] q = some e := by cases q <;> rfl
@[simp] theorem z66 {n : Nat} {f} {d : En → Rs (List O)} : dMut n f d e = match isLst (slot e n) with
  | true => (d e).bind fun os e1 => match slot e1 n with
    | some (.lst c) => match f c os with
      | some (c', z) => .ok z (putS e1 n (.lst c'))
      | none => .bad
    | _ => .bad
  | false => .bad := Eq.trans rfl rfl
@[simp] theorem z67 {xs : List O} : isLst (some (.lst xs)) = true := Eq.trans rfl rfl
@[simp] theorem z68 {d : En → Rs (List Ar)} {f : List O → Option (List D)} : iOps d f e = (d e).bind fun xs e1 => match gets e1 xs with
  | some os => match f os with
    | some ds => .ok ds e1
    | none => .bad
  | none => .bad := Eq.trans rfl rfl
@[simp] theorem z69 : dYes e = .ok true e := Eq.trans rfl rfl
@[simp] theorem z70 {it : En → Rs (List D)} {vs : List Nat} {t : Tg} {d : En → Rs Bool} {el : En → Rs O} : dLc it vs t d el e = (it e).bind fun ds e1 => lcL vs t d el ds [] (wipeE e1 vs) := Eq.trans rfl rfl
@[simp] theorem z71 : oNone e = .ok none e := Eq.trans rfl rfl
@[simp] theorem z72 {d : En → Rs Ar} : oSome d e = (d e).bind fun x e1 => match x.get e1 with
  | some (.d (.int i)) => .ok (some i) e1
  | _ => .bad := Eq.trans rfl rfl
def sl1 (f : O → Option Int → Option Int → Option O) (a : Option O) (l u : Option Int) (e : En) : Rs O := match a with
  | some a => fin (f a l u) e
  | none => .bad
@[simp] theorem z73 {f} {a : O} {l u : Option Int} : sl1 f (some a) l u e = fin (f a l u) e := Eq.trans rfl rfl
@[simp] theorem z74 {f} {d : En → Rs Ar} {lo hi : En → Rs (Option Int)} : dSl f d lo hi e = (d e).bind fun x e1 => (lo e1).bind fun l e2 => (hi e2).bind fun u e3 => sl1 f (x.get e3) l u e3 := Eq.trans rfl rfl
def orR {α : Type} (r : Rs α) (s : En → Rs α) (e : En) : Rs α := match r with
  | .bad => s e
  | r => r
@[simp] theorem z75 {s : En → Rs α} : orR (.ok x e1) s e = .ok x e1 := Eq.trans rfl rfl
@[simp] theorem z76 {s : En → Rs α} : orR (.exc c ps e1) s e = .exc c ps e1 := Eq.trans rfl rfl
@[simp] theorem z77 {s : En → Rs α} : orR .bad s e = s e := Eq.trans rfl rfl
@[simp] theorem z78 {a b : En → Rs α} : dOr a b e = orR (a e) b e := Eq.trans rfl rfl
@[simp] theorem z79 {d : En → Rs O} : dFz d e = (d e).bind fun o e1 => .ok (.d o.fz) e1 := Eq.trans rfl rfl
def tsub1 (n : Nat) (o : O) (e2 : En) : Option O → Option O → Option En
  | some ko, some c => match c.store ko o with
    | some c' => some (putS e2 n c')
    | none => none
  | _, _ => none
@[simp] theorem z80 {n : Nat} {o ko c : O} : tsub1 n o e (some ko) (some c) = match c.store ko o with
    | some c' => some (putS e n c')
    | none => none := Eq.trans rfl rfl
def tsub2 (n : Nat) (o : O) : Rs Ar → Option En
  | .ok x e2 => tsub1 n o e2 (x.get e2) (slot e2 n)
  | _ => none
@[simp] theorem z81 {n : Nat} {o : O} {x : Ar} : tsub2 n o (.ok x e) = tsub1 n o e (x.get e) (slot e n) := Eq.trans rfl rfl
@[simp] theorem z82 {n : Nat} {dk : En → Rs Ar} {o : O} : tSub n dk o e = match slot e n with
  | some _ => tsub2 n o (dk e)
  | none => none := by
  unfold tSub tsub2 tsub1
  cases slot e n with
  | none => rfl
  | some c => cases dk e <;> rfl
@[simp] theorem z83 {d : En → Rs (List O)} {f : List D → Option (List D)} : iAr d f e = (d e).bind fun os e1 => match f (fzs os) with
  | some ds => .ok ds e1
  | none => .bad := Eq.trans rfl rfl
@[simp] theorem z84 {d : En → Rs O} : iRev d e = (d e).bind fun o e1 => match seqD o.fz with
  | some ds => .ok ds.reverse e1
  | none => .bad := Eq.trans rfl rfl
def any1 (o : O) (e1 : En) : Rs (List D) := match o with
  | .lst os => .ok (fzs os) e1
  | .d (.lst ds) => .ok ds e1
  | .d (.tup ds) => .ok ds e1
  | _ => .bad
@[simp] theorem z85 {d : En → Rs O} : iAny d e = (d e).bind any1 := by
  unfold iAny dOr iSeq iTupl any1
  cases h : d e with
  | bad => simp [h]
  | exc c ps e1 => simp [h]
  | ok o e1 =>
    simp only [h, z1]
    cases o with
    | d x => cases x <;> simp
    | _ => simp
@[simp] theorem z86 {os : List O} : any1 (.lst os) e = .ok (fzs os) e := Eq.trans rfl rfl
@[simp] theorem z87 {ds : List D} : any1 (.d (.lst ds)) e = .ok ds e := Eq.trans rfl rfl
@[simp] theorem z88 {ds : List D} : any1 (.d (.tup ds)) e = .ok ds e := Eq.trans rfl rfl
@[simp] theorem z89 {d : En → Rs Ar} : rg1 d e = (d e).bind fun x e1 => match x.get e1 with
  | some (.d (.int n)) => .ok ((0 : Int), n) e1
  | _ => .bad := Eq.trans rfl rfl
@[simp] theorem z90 {d d2 : En → Rs Ar} : rg2 d d2 e = (d e).bind fun x e1 => (d2 e1).bind fun y e2 => match x.get e2, y.get e2 with
  | some (.d (.int n)), some (.d (.int m)) => .ok (n, m) e2
  | _, _ => .bad := Eq.trans rfl rfl
@[simp] theorem z91 {d : En → Rs (Int × Int)} : dLRg d e = (d e).bind fun ab e1 => if rgB ab.1 ab.2 = true then .ok (.lst ((rgD ab.1 ab.2).map .d)) e1 else .bad := Eq.trans rfl rfl
@[simp] theorem z92 {d : En → Rs (Int × Int)} : dTRg d e = (d e).bind fun ab e1 => if rgB ab.1 ab.2 = true then .ok (.d (.tup (rgD ab.1 ab.2))) e1 else .bad := Eq.trans rfl rfl
@[simp] theorem z93 {T : String} {f} {da : En → Rs Ar} {d : En → Rs (List Ar)} : dMeth T f da d e = (da e).bind fun x e1 => match x.get e1 with
  | some a0 => if a0.ty = T then (d e1).bind fun xs e2 => match x.get e2, gets e2 xs with
    | some a, some os => fin (f a os) e2
    | _, _ => .bad
    else .bad
  | none => .bad := Eq.trans rfl rfl
@[simp] theorem z94 {it : En → Rs (List D)} {vs : List Nat} {t : Tg} {d : En → Rs Bool} {it1 : En → Rs (List D)} {vs1 : List Nat} {t1 : Tg} {d1 : En → Rs Bool} {el : En → Rs O} : dLc2 it vs t d it1 vs1 t1 d1 el e = (it e).bind fun ds e1 => lc2L vs t d it1 vs1 t1 d1 el ds [] (wipeE e1 vs) := Eq.trans rfl rfl
@[simp] theorem z95 : sRaise c e = .exc c [] e := Eq.trans rfl rfl
@[simp] theorem z96 : aAll [] e = .ok [] e := Eq.trans rfl rfl
@[simp] theorem z97 {d : En → Rs O} {ds : List (En → Rs O)} : aAll (d :: ds) e = (d e).bind fun o e1 => (aAll ds e1).bind fun os e2 => .ok (o :: os) e2 := Eq.trans rfl rfl
@[simp] theorem z98 {ks : List Key} {ds : List (En → Rs O)} : dDisp ks ds e = (aAll ds e).bind fun os e1 => .ok (.dic ks os) e1 := Eq.trans rfl rfl
@[simp] theorem z99 {n : Nat} : dVar n e = match slot e n with
  | some (.d x) => .ok (.d x) e
  | some o => .ok (.d o.fz) (putS e n (.d o.fz))
  | none => .bad := Eq.trans rfl rfl
@[simp] theorem z100 : fzs [] = [] := Eq.trans rfl rfl
@[simp] theorem z101 {o : O} {os : List O} : fzs (o :: os) = o.fz :: fzs os := Eq.trans rfl rfl
@[simp] theorem z102 {x : D} : O.fz (.d x) = x := Eq.trans rfl rfl
@[simp] theorem z103 {os : List O} : O.fz (.lst os) = .lst (fzs os) := Eq.trans rfl rfl
@[simp] theorem z104 {xs : List D} : fzs (xs.map O.d) = xs := fzs_leaf xs
@[simp] theorem z104b {γ : Type} {f : γ → D} {xs : List γ} : fzs (xs.map (O.d ∘ f)) = xs.map f := by rw [← List.map_map, fzs_leaf]
@[simp] theorem z105 {a : α} {l : List α} : ord [0] (a :: l) = [a] := Eq.trans rfl rfl
@[simp] theorem z106 : ord [] ([] : List α) = [] := Eq.trans rfl rfl
@[simp] theorem z107 {a b : α} {l : List α} : ord [0, 1] (a :: b :: l) = [a, b] := Eq.trans rfl rfl
@[simp] theorem z108 {a b c : α} {l : List α} : ord [0, 1, 2] (a :: b :: c :: l) = [a, b, c] := Eq.trans rfl rfl
@[simp] theorem z109 {a b c d : α} {l : List α} : ord [0, 1, 2, 3] (a :: b :: c :: d :: l) = [a, b, c, d] := Eq.trans rfl rfl
@[simp] theorem z110 {a b c d f : α} {l : List α} : ord [0, 1, 2, 3, 4] (a :: b :: c :: d :: f :: l) = [a, b, c, d, f] := Eq.trans rfl rfl
@[simp] theorem z111 {d : En → Rs O} {n : Nat} : dSave n d e = match e[n]? with
  | some s => match s.cont with
    | some o => (d (e.set n s.lent)).bind fun r e1 => match e1[n]? with
      | some s1 => match s1.cont with
        | none => .ok r (e1.set n (s1.put o))
        | some _ => .bad
      | none => .bad
    | none => d e
  | none => d e := Eq.trans rfl rfl
@[simp] theorem z112 : wipeE e [] = e := Eq.trans rfl rfl
@[simp] theorem z113 {v : Nat} {vs : List Nat} : wipeE e (v :: vs) = (wipeE e vs).set v .no := Eq.trans rfl rfl
/-! operators at given values -/
@[simp] theorem y1 : fAdd (.d (.int i)) (.d (.int j)) = some (.d (.int (i + j))) := Eq.trans rfl rfl
@[simp] theorem y2 : fSub (.d (.int i)) (.d (.int j)) = some (.d (.int (i - j))) := Eq.trans rfl rfl
@[simp] theorem y3 : fLt (.d (.int i)) (.d (.int j)) = some (.d (.bl (decide (i < j)))) := Eq.trans rfl rfl
@[simp] theorem y4 : fLe (.d (.int i)) (.d (.int j)) = some (.d (.bl (decide (i ≤ j)))) := Eq.trans rfl rfl
@[simp] theorem y5 : fGt (.d (.int i)) (.d (.int j)) = some (.d (.bl (decide (j < i)))) := Eq.trans rfl rfl
@[simp] theorem y6 : fGe (.d (.int i)) (.d (.int j)) = some (.d (.bl (decide (j ≤ i)))) := Eq.trans rfl rfl
@[simp] theorem y7 : fEq (.d (.int i)) (.d (.int j)) = some (.d (.bl (decide (i = j)))) := Eq.trans rfl rfl
@[simp] theorem y8 : fNe (.d (.int i)) (.d (.int j)) = some (.d (.bl (!decide (i = j)))) := Eq.trans rfl rfl
@[simp] theorem y9 : fNeg (.d (.int i)) = some (.d (.int (-i))) := Eq.trans rfl rfl
@[simp] theorem y10 : on1 fInt [.d (.int i)] = some (.d (.int i)) := Eq.trans rfl rfl
@[simp] theorem y11 : on1 fInt [.d (.bl b)] = some (.d (.int (if b = true then 1 else 0))) := Eq.trans rfl rfl
@[simp] theorem y12 {ds : List D} : fLenU [.d (.lst ds)] = some (.d (.int ds.length)) := Eq.trans rfl rfl
@[simp] theorem y13 {ds : List D} : fLenU [.d (.tup ds)] = some (.d (.int ds.length)) := Eq.trans rfl rfl
@[simp] theorem y14 {os : List O} : fLenU [.lst os] = some (.d (.int os.length)) := Eq.trans rfl rfl
theorem sm_of {i : Int} (h1 : -(2 ^ 64) < i) (h2 : i < 2 ^ 64) : isSm i = true := by
  unfold isSm; rw [decide_eq_true h1, decide_eq_true h2]; rfl
theorem y15 (h : isSm i = true) : fMul (.d (.int i)) (.d (.int j)) = some (.d (.int (i * j))) := by simp [fMul, fMulS, onI, h]
theorem y16 (h : isSm j = true) : fMul (.d (.int i)) (.d (.int j)) = some (.d (.int (i * j))) := by simp [fMul, fMulS, onI, h]
theorem y17 (h : 0 < j) : fMod (.d (.int i)) (.d (.int j)) = some (.d (.int (i % j))) := by simp [fMod, onI, h]
theorem y18 (h : 0 < j) (h2 : j < 2 ^ 64) : fDiv (.d (.int i)) (.d (.int j)) = some (.d (.int (i / j))) := by
  have h3 : j.natAbs.log2 < 9000 := by
    by_cases h0 : j.natAbs = 0
    · rw [h0]; decide
    · exact Nat.lt_trans ((Nat.log2_lt h0).mpr (by have : j.natAbs < 2 ^ 64 := by omega
                                                   exact this)) (by decide)
  simp [fDiv, onI, h, h3]

@[simp] theorem w0a {s : Sl} : slot (s :: e) 0 = s.cont := Eq.trans rfl rfl
@[simp] theorem w0b {s : Sl} {o : O} : putS (s :: e) 0 o = s.put o :: e := Eq.trans rfl rfl
@[simp] theorem w0c {s : Sl} : lentS (s :: e) 0 = s.lent :: e := Eq.trans rfl rfl
@[simp] theorem w0d {o : O} : setS (.no :: e) 0 o = some (.v o :: e) := Eq.trans rfl rfl
@[simp] theorem w0e {o x : O} : setS (.v x :: e) 0 o = some (.v o :: e) := Eq.trans rfl rfl
@[simp] theorem w0i {s : Sl} {o : O} (h : s.pinned = false) : setS (s :: e) 0 o = some (.v o :: e) := by simp [setS, h]
@[simp] theorem w0f {o : O} : dMove 0 (.v o :: e) = .ok o (.no :: e) := Eq.trans rfl rfl
@[simp] theorem w0g {s : Sl} {o q : O} {as : List Ag} {qs : List (Option O)} (h : s.cont = none) : wb (s :: e) ((o, some 0) :: as) (some q :: qs) = wb (s.put q :: e) as qs := by simp [wb, h, putS, modS]
@[simp] theorem w0h {s : Sl} {t : Sl} : List.set (s :: e) 0 t = t :: e := Eq.trans rfl rfl
@[simp] theorem w1a {s0 : Sl} {s : Sl} : slot (s0 :: s :: e) 1 = s.cont := Eq.trans rfl rfl
@[simp] theorem w1b {s0 : Sl} {s : Sl} {o : O} : putS (s0 :: s :: e) 1 o = s0 :: s.put o :: e := Eq.trans rfl rfl
@[simp] theorem w1c {s0 : Sl} {s : Sl} : lentS (s0 :: s :: e) 1 = s0 :: s.lent :: e := Eq.trans rfl rfl
@[simp] theorem w1d {s0 : Sl} {o : O} : setS (s0 :: .no :: e) 1 o = some (s0 :: .v o :: e) := Eq.trans rfl rfl
@[simp] theorem w1e {s0 : Sl} {o x : O} : setS (s0 :: .v x :: e) 1 o = some (s0 :: .v o :: e) := Eq.trans rfl rfl
@[simp] theorem w1i {s0 : Sl} {s : Sl} {o : O} (h : s.pinned = false) : setS (s0 :: s :: e) 1 o = some (s0 :: .v o :: e) := by simp [setS, h]
@[simp] theorem w1f {s0 : Sl} {o : O} : dMove 1 (s0 :: .v o :: e) = .ok o (s0 :: .no :: e) := Eq.trans rfl rfl
@[simp] theorem w1g {s0 : Sl} {s : Sl} {o q : O} {as : List Ag} {qs : List (Option O)} (h : s.cont = none) : wb (s0 :: s :: e) ((o, some 1) :: as) (some q :: qs) = wb (s0 :: s.put q :: e) as qs := by simp [wb, h, putS, modS]
@[simp] theorem w1h {s0 : Sl} {s : Sl} {t : Sl} : List.set (s0 :: s :: e) 1 t = s0 :: t :: e := Eq.trans rfl rfl
@[simp] theorem w2a {s0 s1 : Sl} {s : Sl} : slot (s0 :: s1 :: s :: e) 2 = s.cont := Eq.trans rfl rfl
@[simp] theorem w2b {s0 s1 : Sl} {s : Sl} {o : O} : putS (s0 :: s1 :: s :: e) 2 o = s0 :: s1 :: s.put o :: e := Eq.trans rfl rfl
@[simp] theorem w2c {s0 s1 : Sl} {s : Sl} : lentS (s0 :: s1 :: s :: e) 2 = s0 :: s1 :: s.lent :: e := Eq.trans rfl rfl
@[simp] theorem w2d {s0 s1 : Sl} {o : O} : setS (s0 :: s1 :: .no :: e) 2 o = some (s0 :: s1 :: .v o :: e) := Eq.trans rfl rfl
@[simp] theorem w2e {s0 s1 : Sl} {o x : O} : setS (s0 :: s1 :: .v x :: e) 2 o = some (s0 :: s1 :: .v o :: e) := Eq.trans rfl rfl
@[simp] theorem w2i {s0 s1 : Sl} {s : Sl} {o : O} (h : s.pinned = false) : setS (s0 :: s1 :: s :: e) 2 o = some (s0 :: s1 :: .v o :: e) := by simp [setS, h]
@[simp] theorem w2f {s0 s1 : Sl} {o : O} : dMove 2 (s0 :: s1 :: .v o :: e) = .ok o (s0 :: s1 :: .no :: e) := Eq.trans rfl rfl
@[simp] theorem w2g {s0 s1 : Sl} {s : Sl} {o q : O} {as : List Ag} {qs : List (Option O)} (h : s.cont = none) : wb (s0 :: s1 :: s :: e) ((o, some 2) :: as) (some q :: qs) = wb (s0 :: s1 :: s.put q :: e) as qs := by simp [wb, h, putS, modS]
@[simp] theorem w2h {s0 s1 : Sl} {s : Sl} {t : Sl} : List.set (s0 :: s1 :: s :: e) 2 t = s0 :: s1 :: t :: e := Eq.trans rfl rfl
@[simp] theorem w3a {s0 s1 s2 : Sl} {s : Sl} : slot (s0 :: s1 :: s2 :: s :: e) 3 = s.cont := Eq.trans rfl rfl
@[simp] theorem w3b {s0 s1 s2 : Sl} {s : Sl} {o : O} : putS (s0 :: s1 :: s2 :: s :: e) 3 o = s0 :: s1 :: s2 :: s.put o :: e := Eq.trans rfl rfl
@[simp] theorem w3c {s0 s1 s2 : Sl} {s : Sl} : lentS (s0 :: s1 :: s2 :: s :: e) 3 = s0 :: s1 :: s2 :: s.lent :: e := Eq.trans rfl rfl
@[simp] theorem w3d {s0 s1 s2 : Sl} {o : O} : setS (s0 :: s1 :: s2 :: .no :: e) 3 o = some (s0 :: s1 :: s2 :: .v o :: e) := Eq.trans rfl rfl
@[simp] theorem w3e {s0 s1 s2 : Sl} {o x : O} : setS (s0 :: s1 :: s2 :: .v x :: e) 3 o = some (s0 :: s1 :: s2 :: .v o :: e) := Eq.trans rfl rfl
@[simp] theorem w3i {s0 s1 s2 : Sl} {s : Sl} {o : O} (h : s.pinned = false) : setS (s0 :: s1 :: s2 :: s :: e) 3 o = some (s0 :: s1 :: s2 :: .v o :: e) := by simp [setS, h]
@[simp] theorem w3f {s0 s1 s2 : Sl} {o : O} : dMove 3 (s0 :: s1 :: s2 :: .v o :: e) = .ok o (s0 :: s1 :: s2 :: .no :: e) := Eq.trans rfl rfl
@[simp] theorem w3g {s0 s1 s2 : Sl} {s : Sl} {o q : O} {as : List Ag} {qs : List (Option O)} (h : s.cont = none) : wb (s0 :: s1 :: s2 :: s :: e) ((o, some 3) :: as) (some q :: qs) = wb (s0 :: s1 :: s2 :: s.put q :: e) as qs := by simp [wb, h, putS, modS]
@[simp] theorem w3h {s0 s1 s2 : Sl} {s : Sl} {t : Sl} : List.set (s0 :: s1 :: s2 :: s :: e) 3 t = s0 :: s1 :: s2 :: t :: e := Eq.trans rfl rfl
@[simp] theorem w4a {s0 s1 s2 s3 : Sl} {s : Sl} : slot (s0 :: s1 :: s2 :: s3 :: s :: e) 4 = s.cont := Eq.trans rfl rfl
@[simp] theorem w4b {s0 s1 s2 s3 : Sl} {s : Sl} {o : O} : putS (s0 :: s1 :: s2 :: s3 :: s :: e) 4 o = s0 :: s1 :: s2 :: s3 :: s.put o :: e := Eq.trans rfl rfl
@[simp] theorem w4c {s0 s1 s2 s3 : Sl} {s : Sl} : lentS (s0 :: s1 :: s2 :: s3 :: s :: e) 4 = s0 :: s1 :: s2 :: s3 :: s.lent :: e := Eq.trans rfl rfl
@[simp] theorem w4d {s0 s1 s2 s3 : Sl} {o : O} : setS (s0 :: s1 :: s2 :: s3 :: .no :: e) 4 o = some (s0 :: s1 :: s2 :: s3 :: .v o :: e) := Eq.trans rfl rfl
@[simp] theorem w4e {s0 s1 s2 s3 : Sl} {o x : O} : setS (s0 :: s1 :: s2 :: s3 :: .v x :: e) 4 o = some (s0 :: s1 :: s2 :: s3 :: .v o :: e) := Eq.trans rfl rfl
@[simp] theorem w4i {s0 s1 s2 s3 : Sl} {s : Sl} {o : O} (h : s.pinned = false) : setS (s0 :: s1 :: s2 :: s3 :: s :: e) 4 o = some (s0 :: s1 :: s2 :: s3 :: .v o :: e) := by simp [setS, h]
@[simp] theorem w4f {s0 s1 s2 s3 : Sl} {o : O} : dMove 4 (s0 :: s1 :: s2 :: s3 :: .v o :: e) = .ok o (s0 :: s1 :: s2 :: s3 :: .no :: e) := Eq.trans rfl rfl
@[simp] theorem w4g {s0 s1 s2 s3 : Sl} {s : Sl} {o q : O} {as : List Ag} {qs : List (Option O)} (h : s.cont = none) : wb (s0 :: s1 :: s2 :: s3 :: s :: e) ((o, some 4) :: as) (some q :: qs) = wb (s0 :: s1 :: s2 :: s3 :: s.put q :: e) as qs := by simp [wb, h, putS, modS]
@[simp] theorem w4h {s0 s1 s2 s3 : Sl} {s : Sl} {t : Sl} : List.set (s0 :: s1 :: s2 :: s3 :: s :: e) 4 t = s0 :: s1 :: s2 :: s3 :: t :: e := Eq.trans rfl rfl
@[simp] theorem w5a {s0 s1 s2 s3 s4 : Sl} {s : Sl} : slot (s0 :: s1 :: s2 :: s3 :: s4 :: s :: e) 5 = s.cont := Eq.trans rfl rfl
@[simp] theorem w5b {s0 s1 s2 s3 s4 : Sl} {s : Sl} {o : O} : putS (s0 :: s1 :: s2 :: s3 :: s4 :: s :: e) 5 o = s0 :: s1 :: s2 :: s3 :: s4 :: s.put o :: e := Eq.trans rfl rfl
@[simp] theorem w5c {s0 s1 s2 s3 s4 : Sl} {s : Sl} : lentS (s0 :: s1 :: s2 :: s3 :: s4 :: s :: e) 5 = s0 :: s1 :: s2 :: s3 :: s4 :: s.lent :: e := Eq.trans rfl rfl
@[simp] theorem w5d {s0 s1 s2 s3 s4 : Sl} {o : O} : setS (s0 :: s1 :: s2 :: s3 :: s4 :: .no :: e) 5 o = some (s0 :: s1 :: s2 :: s3 :: s4 :: .v o :: e) := Eq.trans rfl rfl
@[simp] theorem w5e {s0 s1 s2 s3 s4 : Sl} {o x : O} : setS (s0 :: s1 :: s2 :: s3 :: s4 :: .v x :: e) 5 o = some (s0 :: s1 :: s2 :: s3 :: s4 :: .v o :: e) := Eq.trans rfl rfl
@[simp] theorem w5i {s0 s1 s2 s3 s4 : Sl} {s : Sl} {o : O} (h : s.pinned = false) : setS (s0 :: s1 :: s2 :: s3 :: s4 :: s :: e) 5 o = some (s0 :: s1 :: s2 :: s3 :: s4 :: .v o :: e) := by simp [setS, h]
@[simp] theorem w5f {s0 s1 s2 s3 s4 : Sl} {o : O} : dMove 5 (s0 :: s1 :: s2 :: s3 :: s4 :: .v o :: e) = .ok o (s0 :: s1 :: s2 :: s3 :: s4 :: .no :: e) := Eq.trans rfl rfl
@[simp] theorem w5g {s0 s1 s2 s3 s4 : Sl} {s : Sl} {o q : O} {as : List Ag} {qs : List (Option O)} (h : s.cont = none) : wb (s0 :: s1 :: s2 :: s3 :: s4 :: s :: e) ((o, some 5) :: as) (some q :: qs) = wb (s0 :: s1 :: s2 :: s3 :: s4 :: s.put q :: e) as qs := by simp [wb, h, putS, modS]
@[simp] theorem w5h {s0 s1 s2 s3 s4 : Sl} {s : Sl} {t : Sl} : List.set (s0 :: s1 :: s2 :: s3 :: s4 :: s :: e) 5 t = s0 :: s1 :: s2 :: s3 :: s4 :: t :: e := Eq.trans rfl rfl
@[simp] theorem w6a {s0 s1 s2 s3 s4 s5 : Sl} {s : Sl} : slot (s0 :: s1 :: s2 :: s3 :: s4 :: s5 :: s :: e) 6 = s.cont := Eq.trans rfl rfl
@[simp] theorem w6b {s0 s1 s2 s3 s4 s5 : Sl} {s : Sl} {o : O} : putS (s0 :: s1 :: s2 :: s3 :: s4 :: s5 :: s :: e) 6 o = s0 :: s1 :: s2 :: s3 :: s4 :: s5 :: s.put o :: e := Eq.trans rfl rfl
@[simp] theorem w6c {s0 s1 s2 s3 s4 s5 : Sl} {s : Sl} : lentS (s0 :: s1 :: s2 :: s3 :: s4 :: s5 :: s :: e) 6 = s0 :: s1 :: s2 :: s3 :: s4 :: s5 :: s.lent :: e := Eq.trans rfl rfl
@[simp] theorem w6d {s0 s1 s2 s3 s4 s5 : Sl} {o : O} : setS (s0 :: s1 :: s2 :: s3 :: s4 :: s5 :: .no :: e) 6 o = some (s0 :: s1 :: s2 :: s3 :: s4 :: s5 :: .v o :: e) := Eq.trans rfl rfl
@[simp] theorem w6e {s0 s1 s2 s3 s4 s5 : Sl} {o x : O} : setS (s0 :: s1 :: s2 :: s3 :: s4 :: s5 :: .v x :: e) 6 o = some (s0 :: s1 :: s2 :: s3 :: s4 :: s5 :: .v o :: e) := Eq.trans rfl rfl
@[simp] theorem w6i {s0 s1 s2 s3 s4 s5 : Sl} {s : Sl} {o : O} (h : s.pinned = false) : setS (s0 :: s1 :: s2 :: s3 :: s4 :: s5 :: s :: e) 6 o = some (s0 :: s1 :: s2 :: s3 :: s4 :: s5 :: .v o :: e) := by simp [setS, h]
@[simp] theorem w6f {s0 s1 s2 s3 s4 s5 : Sl} {o : O} : dMove 6 (s0 :: s1 :: s2 :: s3 :: s4 :: s5 :: .v o :: e) = .ok o (s0 :: s1 :: s2 :: s3 :: s4 :: s5 :: .no :: e) := Eq.trans rfl rfl
@[simp] theorem w6g {s0 s1 s2 s3 s4 s5 : Sl} {s : Sl} {o q : O} {as : List Ag} {qs : List (Option O)} (h : s.cont = none) : wb (s0 :: s1 :: s2 :: s3 :: s4 :: s5 :: s :: e) ((o, some 6) :: as) (some q :: qs) = wb (s0 :: s1 :: s2 :: s3 :: s4 :: s5 :: s.put q :: e) as qs := by simp [wb, h, putS, modS]
@[simp] theorem w6h {s0 s1 s2 s3 s4 s5 : Sl} {s : Sl} {t : Sl} : List.set (s0 :: s1 :: s2 :: s3 :: s4 :: s5 :: s :: e) 6 t = s0 :: s1 :: s2 :: s3 :: s4 :: s5 :: t :: e := Eq.trans rfl rfl
@[simp] theorem w7a {s0 s1 s2 s3 s4 s5 s6 : Sl} {s : Sl} : slot (s0 :: s1 :: s2 :: s3 :: s4 :: s5 :: s6 :: s :: e) 7 = s.cont := Eq.trans rfl rfl
@[simp] theorem w7b {s0 s1 s2 s3 s4 s5 s6 : Sl} {s : Sl} {o : O} : putS (s0 :: s1 :: s2 :: s3 :: s4 :: s5 :: s6 :: s :: e) 7 o = s0 :: s1 :: s2 :: s3 :: s4 :: s5 :: s6 :: s.put o :: e := Eq.trans rfl rfl
@[simp] theorem w7c {s0 s1 s2 s3 s4 s5 s6 : Sl} {s : Sl} : lentS (s0 :: s1 :: s2 :: s3 :: s4 :: s5 :: s6 :: s :: e) 7 = s0 :: s1 :: s2 :: s3 :: s4 :: s5 :: s6 :: s.lent :: e := Eq.trans rfl rfl
@[simp] theorem w7d {s0 s1 s2 s3 s4 s5 s6 : Sl} {o : O} : setS (s0 :: s1 :: s2 :: s3 :: s4 :: s5 :: s6 :: .no :: e) 7 o = some (s0 :: s1 :: s2 :: s3 :: s4 :: s5 :: s6 :: .v o :: e) := Eq.trans rfl rfl
@[simp] theorem w7e {s0 s1 s2 s3 s4 s5 s6 : Sl} {o x : O} : setS (s0 :: s1 :: s2 :: s3 :: s4 :: s5 :: s6 :: .v x :: e) 7 o = some (s0 :: s1 :: s2 :: s3 :: s4 :: s5 :: s6 :: .v o :: e) := Eq.trans rfl rfl
@[simp] theorem w7i {s0 s1 s2 s3 s4 s5 s6 : Sl} {s : Sl} {o : O} (h : s.pinned = false) : setS (s0 :: s1 :: s2 :: s3 :: s4 :: s5 :: s6 :: s :: e) 7 o = some (s0 :: s1 :: s2 :: s3 :: s4 :: s5 :: s6 :: .v o :: e) := by simp [setS, h]
@[simp] theorem w7f {s0 s1 s2 s3 s4 s5 s6 : Sl} {o : O} : dMove 7 (s0 :: s1 :: s2 :: s3 :: s4 :: s5 :: s6 :: .v o :: e) = .ok o (s0 :: s1 :: s2 :: s3 :: s4 :: s5 :: s6 :: .no :: e) := Eq.trans rfl rfl
@[simp] theorem w7g {s0 s1 s2 s3 s4 s5 s6 : Sl} {s : Sl} {o q : O} {as : List Ag} {qs : List (Option O)} (h : s.cont = none) : wb (s0 :: s1 :: s2 :: s3 :: s4 :: s5 :: s6 :: s :: e) ((o, some 7) :: as) (some q :: qs) = wb (s0 :: s1 :: s2 :: s3 :: s4 :: s5 :: s6 :: s.put q :: e) as qs := by simp [wb, h, putS, modS]
@[simp] theorem w7h {s0 s1 s2 s3 s4 s5 s6 : Sl} {s : Sl} {t : Sl} : List.set (s0 :: s1 :: s2 :: s3 :: s4 :: s5 :: s6 :: s :: e) 7 t = s0 :: s1 :: s2 :: s3 :: s4 :: s5 :: s6 :: t :: e := Eq.trans rfl rfl
@[simp] theorem w8a {s0 s1 s2 s3 s4 s5 s6 s7 : Sl} {s : Sl} : slot (s0 :: s1 :: s2 :: s3 :: s4 :: s5 :: s6 :: s7 :: s :: e) 8 = s.cont := Eq.trans rfl rfl
@[simp] theorem w8b {s0 s1 s2 s3 s4 s5 s6 s7 : Sl} {s : Sl} {o : O} : putS (s0 :: s1 :: s2 :: s3 :: s4 :: s5 :: s6 :: s7 :: s :: e) 8 o = s0 :: s1 :: s2 :: s3 :: s4 :: s5 :: s6 :: s7 :: s.put o :: e := Eq.trans rfl rfl
@[simp] theorem w8c {s0 s1 s2 s3 s4 s5 s6 s7 : Sl} {s : Sl} : lentS (s0 :: s1 :: s2 :: s3 :: s4 :: s5 :: s6 :: s7 :: s :: e) 8 = s0 :: s1 :: s2 :: s3 :: s4 :: s5 :: s6 :: s7 :: s.lent :: e := Eq.trans rfl rfl
@[simp] theorem w8d {s0 s1 s2 s3 s4 s5 s6 s7 : Sl} {o : O} : setS (s0 :: s1 :: s2 :: s3 :: s4 :: s5 :: s6 :: s7 :: .no :: e) 8 o = some (s0 :: s1 :: s2 :: s3 :: s4 :: s5 :: s6 :: s7 :: .v o :: e) := Eq.trans rfl rfl
@[simp] theorem w8e {s0 s1 s2 s3 s4 s5 s6 s7 : Sl} {o x : O} : setS (s0 :: s1 :: s2 :: s3 :: s4 :: s5 :: s6 :: s7 :: .v x :: e) 8 o = some (s0 :: s1 :: s2 :: s3 :: s4 :: s5 :: s6 :: s7 :: .v o :: e) := Eq.trans rfl rfl
@[simp] theorem w8i {s0 s1 s2 s3 s4 s5 s6 s7 : Sl} {s : Sl} {o : O} (h : s.pinned = false) : setS (s0 :: s1 :: s2 :: s3 :: s4 :: s5 :: s6 :: s7 :: s :: e) 8 o = some (s0 :: s1 :: s2 :: s3 :: s4 :: s5 :: s6 :: s7 :: .v o :: e) := by simp [setS, h]
@[simp] theorem w8f {s0 s1 s2 s3 s4 s5 s6 s7 : Sl} {o : O} : dMove 8 (s0 :: s1 :: s2 :: s3 :: s4 :: s5 :: s6 :: s7 :: .v o :: e) = .ok o (s0 :: s1 :: s2 :: s3 :: s4 :: s5 :: s6 :: s7 :: .no :: e) := Eq.trans rfl rfl
@[simp] theorem w8g {s0 s1 s2 s3 s4 s5 s6 s7 : Sl} {s : Sl} {o q : O} {as : List Ag} {qs : List (Option O)} (h : s.cont = none) : wb (s0 :: s1 :: s2 :: s3 :: s4 :: s5 :: s6 :: s7 :: s :: e) ((o, some 8) :: as) (some q :: qs) = wb (s0 :: s1 :: s2 :: s3 :: s4 :: s5 :: s6 :: s7 :: s.put q :: e) as qs := by simp [wb, h, putS, modS]
@[simp] theorem w8h {s0 s1 s2 s3 s4 s5 s6 s7 : Sl} {s : Sl} {t : Sl} : List.set (s0 :: s1 :: s2 :: s3 :: s4 :: s5 :: s6 :: s7 :: s :: e) 8 t = s0 :: s1 :: s2 :: s3 :: s4 :: s5 :: s6 :: s7 :: t :: e := Eq.trans rfl rfl
@[simp] theorem w9a {s0 s1 s2 s3 s4 s5 s6 s7 s8 : Sl} {s : Sl} : slot (s0 :: s1 :: s2 :: s3 :: s4 :: s5 :: s6 :: s7 :: s8 :: s :: e) 9 = s.cont := Eq.trans rfl rfl
@[simp] theorem w9b {s0 s1 s2 s3 s4 s5 s6 s7 s8 : Sl} {s : Sl} {o : O} : putS (s0 :: s1 :: s2 :: s3 :: s4 :: s5 :: s6 :: s7 :: s8 :: s :: e) 9 o = s0 :: s1 :: s2 :: s3 :: s4 :: s5 :: s6 :: s7 :: s8 :: s.put o :: e := Eq.trans rfl rfl
@[simp] theorem w9c {s0 s1 s2 s3 s4 s5 s6 s7 s8 : Sl} {s : Sl} : lentS (s0 :: s1 :: s2 :: s3 :: s4 :: s5 :: s6 :: s7 :: s8 :: s :: e) 9 = s0 :: s1 :: s2 :: s3 :: s4 :: s5 :: s6 :: s7 :: s8 :: s.lent :: e := Eq.trans rfl rfl
@[simp] theorem w9d {s0 s1 s2 s3 s4 s5 s6 s7 s8 : Sl} {o : O} : setS (s0 :: s1 :: s2 :: s3 :: s4 :: s5 :: s6 :: s7 :: s8 :: .no :: e) 9 o = some (s0 :: s1 :: s2 :: s3 :: s4 :: s5 :: s6 :: s7 :: s8 :: .v o :: e) := Eq.trans rfl rfl
@[simp] theorem w9e {s0 s1 s2 s3 s4 s5 s6 s7 s8 : Sl} {o x : O} : setS (s0 :: s1 :: s2 :: s3 :: s4 :: s5 :: s6 :: s7 :: s8 :: .v x :: e) 9 o = some (s0 :: s1 :: s2 :: s3 :: s4 :: s5 :: s6 :: s7 :: s8 :: .v o :: e) := Eq.trans rfl rfl
@[simp] theorem w9i {s0 s1 s2 s3 s4 s5 s6 s7 s8 : Sl} {s : Sl} {o : O} (h : s.pinned = false) : setS (s0 :: s1 :: s2 :: s3 :: s4 :: s5 :: s6 :: s7 :: s8 :: s :: e) 9 o = some (s0 :: s1 :: s2 :: s3 :: s4 :: s5 :: s6 :: s7 :: s8 :: .v o :: e) := by simp [setS, h]
@[simp] theorem w9f {s0 s1 s2 s3 s4 s5 s6 s7 s8 : Sl} {o : O} : dMove 9 (s0 :: s1 :: s2 :: s3 :: s4 :: s5 :: s6 :: s7 :: s8 :: .v o :: e) = .ok o (s0 :: s1 :: s2 :: s3 :: s4 :: s5 :: s6 :: s7 :: s8 :: .no :: e) := Eq.trans rfl rfl
@[simp] theorem w9g {s0 s1 s2 s3 s4 s5 s6 s7 s8 : Sl} {s : Sl} {o q : O} {as : List Ag} {qs : List (Option O)} (h : s.cont = none) : wb (s0 :: s1 :: s2 :: s3 :: s4 :: s5 :: s6 :: s7 :: s8 :: s :: e) ((o, some 9) :: as) (some q :: qs) = wb (s0 :: s1 :: s2 :: s3 :: s4 :: s5 :: s6 :: s7 :: s8 :: s.put q :: e) as qs := by simp [wb, h, putS, modS]
@[simp] theorem w9h {s0 s1 s2 s3 s4 s5 s6 s7 s8 : Sl} {s : Sl} {t : Sl} : List.set (s0 :: s1 :: s2 :: s3 :: s4 :: s5 :: s6 :: s7 :: s8 :: s :: e) 9 t = s0 :: s1 :: s2 :: s3 :: s4 :: s5 :: s6 :: s7 :: s8 :: t :: e := Eq.trans rfl rfl
@[simp] theorem w10a {s0 s1 s2 s3 s4 s5 s6 s7 s8 s9 : Sl} {s : Sl} : slot (s0 :: s1 :: s2 :: s3 :: s4 :: s5 :: s6 :: s7 :: s8 :: s9 :: s :: e) 10 = s.cont := Eq.trans rfl rfl
@[simp] theorem w10b {s0 s1 s2 s3 s4 s5 s6 s7 s8 s9 : Sl} {s : Sl} {o : O} : putS (s0 :: s1 :: s2 :: s3 :: s4 :: s5 :: s6 :: s7 :: s8 :: s9 :: s :: e) 10 o = s0 :: s1 :: s2 :: s3 :: s4 :: s5 :: s6 :: s7 :: s8 :: s9 :: s.put o :: e := Eq.trans rfl rfl
@[simp] theorem w10c {s0 s1 s2 s3 s4 s5 s6 s7 s8 s9 : Sl} {s : Sl} : lentS (s0 :: s1 :: s2 :: s3 :: s4 :: s5 :: s6 :: s7 :: s8 :: s9 :: s :: e) 10 = s0 :: s1 :: s2 :: s3 :: s4 :: s5 :: s6 :: s7 :: s8 :: s9 :: s.lent :: e := Eq.trans rfl rfl
@[simp] theorem w10d {s0 s1 s2 s3 s4 s5 s6 s7 s8 s9 : Sl} {o : O} : setS (s0 :: s1 :: s2 :: s3 :: s4 :: s5 :: s6 :: s7 :: s8 :: s9 :: .no :: e) 10 o = some (s0 :: s1 :: s2 :: s3 :: s4 :: s5 :: s6 :: s7 :: s8 :: s9 :: .v o :: e) := Eq.trans rfl rfl
@[simp] theorem w10e {s0 s1 s2 s3 s4 s5 s6 s7 s8 s9 : Sl} {o x : O} : setS (s0 :: s1 :: s2 :: s3 :: s4 :: s5 :: s6 :: s7 :: s8 :: s9 :: .v x :: e) 10 o = some (s0 :: s1 :: s2 :: s3 :: s4 :: s5 :: s6 :: s7 :: s8 :: s9 :: .v o :: e) := Eq.trans rfl rfl
@[simp] theorem w10i {s0 s1 s2 s3 s4 s5 s6 s7 s8 s9 : Sl} {s : Sl} {o : O} (h : s.pinned = false) : setS (s0 :: s1 :: s2 :: s3 :: s4 :: s5 :: s6 :: s7 :: s8 :: s9 :: s :: e) 10 o = some (s0 :: s1 :: s2 :: s3 :: s4 :: s5 :: s6 :: s7 :: s8 :: s9 :: .v o :: e) := by simp [setS, h]
@[simp] theorem w10f {s0 s1 s2 s3 s4 s5 s6 s7 s8 s9 : Sl} {o : O} : dMove 10 (s0 :: s1 :: s2 :: s3 :: s4 :: s5 :: s6 :: s7 :: s8 :: s9 :: .v o :: e) = .ok o (s0 :: s1 :: s2 :: s3 :: s4 :: s5 :: s6 :: s7 :: s8 :: s9 :: .no :: e) := Eq.trans rfl rfl
@[simp] theorem w10g {s0 s1 s2 s3 s4 s5 s6 s7 s8 s9 : Sl} {s : Sl} {o q : O} {as : List Ag} {qs : List (Option O)} (h : s.cont = none) : wb (s0 :: s1 :: s2 :: s3 :: s4 :: s5 :: s6 :: s7 :: s8 :: s9 :: s :: e) ((o, some 10) :: as) (some q :: qs) = wb (s0 :: s1 :: s2 :: s3 :: s4 :: s5 :: s6 :: s7 :: s8 :: s9 :: s.put q :: e) as qs := by simp [wb, h, putS, modS]
@[simp] theorem w10h {s0 s1 s2 s3 s4 s5 s6 s7 s8 s9 : Sl} {s : Sl} {t : Sl} : List.set (s0 :: s1 :: s2 :: s3 :: s4 :: s5 :: s6 :: s7 :: s8 :: s9 :: s :: e) 10 t = s0 :: s1 :: s2 :: s3 :: s4 :: s5 :: s6 :: s7 :: s8 :: s9 :: t :: e := Eq.trans rfl rfl
@[simp] theorem w11a {s0 s1 s2 s3 s4 s5 s6 s7 s8 s9 s10 : Sl} {s : Sl} : slot (s0 :: s1 :: s2 :: s3 :: s4 :: s5 :: s6 :: s7 :: s8 :: s9 :: s10 :: s :: e) 11 = s.cont := Eq.trans rfl rfl
@[simp] theorem w11b {s0 s1 s2 s3 s4 s5 s6 s7 s8 s9 s10 : Sl} {s : Sl} {o : O} : putS (s0 :: s1 :: s2 :: s3 :: s4 :: s5 :: s6 :: s7 :: s8 :: s9 :: s10 :: s :: e) 11 o = s0 :: s1 :: s2 :: s3 :: s4 :: s5 :: s6 :: s7 :: s8 :: s9 :: s10 :: s.put o :: e := Eq.trans rfl rfl
@[simp] theorem w11c {s0 s1 s2 s3 s4 s5 s6 s7 s8 s9 s10 : Sl} {s : Sl} : lentS (s0 :: s1 :: s2 :: s3 :: s4 :: s5 :: s6 :: s7 :: s8 :: s9 :: s10 :: s :: e) 11 = s0 :: s1 :: s2 :: s3 :: s4 :: s5 :: s6 :: s7 :: s8 :: s9 :: s10 :: s.lent :: e := Eq.trans rfl rfl
@[simp] theorem w11d {s0 s1 s2 s3 s4 s5 s6 s7 s8 s9 s10 : Sl} {o : O} : setS (s0 :: s1 :: s2 :: s3 :: s4 :: s5 :: s6 :: s7 :: s8 :: s9 :: s10 :: .no :: e) 11 o = some (s0 :: s1 :: s2 :: s3 :: s4 :: s5 :: s6 :: s7 :: s8 :: s9 :: s10 :: .v o :: e) := Eq.trans rfl rfl
@[simp] theorem w11e {s0 s1 s2 s3 s4 s5 s6 s7 s8 s9 s10 : Sl} {o x : O} : setS (s0 :: s1 :: s2 :: s3 :: s4 :: s5 :: s6 :: s7 :: s8 :: s9 :: s10 :: .v x :: e) 11 o = some (s0 :: s1 :: s2 :: s3 :: s4 :: s5 :: s6 :: s7 :: s8 :: s9 :: s10 :: .v o :: e) := Eq.trans rfl rfl
@[simp] theorem w11i {s0 s1 s2 s3 s4 s5 s6 s7 s8 s9 s10 : Sl} {s : Sl} {o : O} (h : s.pinned = false) : setS (s0 :: s1 :: s2 :: s3 :: s4 :: s5 :: s6 :: s7 :: s8 :: s9 :: s10 :: s :: e) 11 o = some (s0 :: s1 :: s2 :: s3 :: s4 :: s5 :: s6 :: s7 :: s8 :: s9 :: s10 :: .v o :: e) := by simp [setS, h]
@[simp] theorem w11f {s0 s1 s2 s3 s4 s5 s6 s7 s8 s9 s10 : Sl} {o : O} : dMove 11 (s0 :: s1 :: s2 :: s3 :: s4 :: s5 :: s6 :: s7 :: s8 :: s9 :: s10 :: .v o :: e) = .ok o (s0 :: s1 :: s2 :: s3 :: s4 :: s5 :: s6 :: s7 :: s8 :: s9 :: s10 :: .no :: e) := Eq.trans rfl rfl
@[simp] theorem w11g {s0 s1 s2 s3 s4 s5 s6 s7 s8 s9 s10 : Sl} {s : Sl} {o q : O} {as : List Ag} {qs : List (Option O)} (h : s.cont = none) : wb (s0 :: s1 :: s2 :: s3 :: s4 :: s5 :: s6 :: s7 :: s8 :: s9 :: s10 :: s :: e) ((o, some 11) :: as) (some q :: qs) = wb (s0 :: s1 :: s2 :: s3 :: s4 :: s5 :: s6 :: s7 :: s8 :: s9 :: s10 :: s.put q :: e) as qs := by simp [wb, h, putS, modS]
@[simp] theorem w11h {s0 s1 s2 s3 s4 s5 s6 s7 s8 s9 s10 : Sl} {s : Sl} {t : Sl} : List.set (s0 :: s1 :: s2 :: s3 :: s4 :: s5 :: s6 :: s7 :: s8 :: s9 :: s10 :: s :: e) 11 t = s0 :: s1 :: s2 :: s3 :: s4 :: s5 :: s6 :: s7 :: s8 :: s9 :: s10 :: t :: e := Eq.trans rfl rfl
@[simp] theorem w12a {s0 s1 s2 s3 s4 s5 s6 s7 s8 s9 s10 s11 : Sl} {s : Sl} : slot (s0 :: s1 :: s2 :: s3 :: s4 :: s5 :: s6 :: s7 :: s8 :: s9 :: s10 :: s11 :: s :: e) 12 = s.cont := Eq.trans rfl rfl
@[simp] theorem w12b {s0 s1 s2 s3 s4 s5 s6 s7 s8 s9 s10 s11 : Sl} {s : Sl} {o : O} : putS (s0 :: s1 :: s2 :: s3 :: s4 :: s5 :: s6 :: s7 :: s8 :: s9 :: s10 :: s11 :: s :: e) 12 o = s0 :: s1 :: s2 :: s3 :: s4 :: s5 :: s6 :: s7 :: s8 :: s9 :: s10 :: s11 :: s.put o :: e := Eq.trans rfl rfl
@[simp] theorem w12c {s0 s1 s2 s3 s4 s5 s6 s7 s8 s9 s10 s11 : Sl} {s : Sl} : lentS (s0 :: s1 :: s2 :: s3 :: s4 :: s5 :: s6 :: s7 :: s8 :: s9 :: s10 :: s11 :: s :: e) 12 = s0 :: s1 :: s2 :: s3 :: s4 :: s5 :: s6 :: s7 :: s8 :: s9 :: s10 :: s11 :: s.lent :: e := Eq.trans rfl rfl
@[simp] theorem w12d {s0 s1 s2 s3 s4 s5 s6 s7 s8 s9 s10 s11 : Sl} {o : O} : setS (s0 :: s1 :: s2 :: s3 :: s4 :: s5 :: s6 :: s7 :: s8 :: s9 :: s10 :: s11 :: .no :: e) 12 o = some (s0 :: s1 :: s2 :: s3 :: s4 :: s5 :: s6 :: s7 :: s8 :: s9 :: s10 :: s11 :: .v o :: e) := Eq.trans rfl rfl
@[simp] theorem w12e {s0 s1 s2 s3 s4 s5 s6 s7 s8 s9 s10 s11 : Sl} {o x : O} : setS (s0 :: s1 :: s2 :: s3 :: s4 :: s5 :: s6 :: s7 :: s8 :: s9 :: s10 :: s11 :: .v x :: e) 12 o = some (s0 :: s1 :: s2 :: s3 :: s4 :: s5 :: s6 :: s7 :: s8 :: s9 :: s10 :: s11 :: .v o :: e) := Eq.trans rfl rfl
@[simp] theorem w12i {s0 s1 s2 s3 s4 s5 s6 s7 s8 s9 s10 s11 : Sl} {s : Sl} {o : O} (h : s.pinned = false) : setS (s0 :: s1 :: s2 :: s3 :: s4 :: s5 :: s6 :: s7 :: s8 :: s9 :: s10 :: s11 :: s :: e) 12 o = some (s0 :: s1 :: s2 :: s3 :: s4 :: s5 :: s6 :: s7 :: s8 :: s9 :: s10 :: s11 :: .v o :: e) := by simp [setS, h]
@[simp] theorem w12f {s0 s1 s2 s3 s4 s5 s6 s7 s8 s9 s10 s11 : Sl} {o : O} : dMove 12 (s0 :: s1 :: s2 :: s3 :: s4 :: s5 :: s6 :: s7 :: s8 :: s9 :: s10 :: s11 :: .v o :: e) = .ok o (s0 :: s1 :: s2 :: s3 :: s4 :: s5 :: s6 :: s7 :: s8 :: s9 :: s10 :: s11 :: .no :: e) := Eq.trans rfl rfl
@[simp] theorem w12g {s0 s1 s2 s3 s4 s5 s6 s7 s8 s9 s10 s11 : Sl} {s : Sl} {o q : O} {as : List Ag} {qs : List (Option O)} (h : s.cont = none) : wb (s0 :: s1 :: s2 :: s3 :: s4 :: s5 :: s6 :: s7 :: s8 :: s9 :: s10 :: s11 :: s :: e) ((o, some 12) :: as) (some q :: qs) = wb (s0 :: s1 :: s2 :: s3 :: s4 :: s5 :: s6 :: s7 :: s8 :: s9 :: s10 :: s11 :: s.put q :: e) as qs := by simp [wb, h, putS, modS]
@[simp] theorem w12h {s0 s1 s2 s3 s4 s5 s6 s7 s8 s9 s10 s11 : Sl} {s : Sl} {t : Sl} : List.set (s0 :: s1 :: s2 :: s3 :: s4 :: s5 :: s6 :: s7 :: s8 :: s9 :: s10 :: s11 :: s :: e) 12 t = s0 :: s1 :: s2 :: s3 :: s4 :: s5 :: s6 :: s7 :: s8 :: s9 :: s10 :: s11 :: t :: e := Eq.trans rfl rfl
@[simp] theorem w13a {s0 s1 s2 s3 s4 s5 s6 s7 s8 s9 s10 s11 s12 : Sl} {s : Sl} : slot (s0 :: s1 :: s2 :: s3 :: s4 :: s5 :: s6 :: s7 :: s8 :: s9 :: s10 :: s11 :: s12 :: s :: e) 13 = s.cont := Eq.trans rfl rfl
@[simp] theorem w13b {s0 s1 s2 s3 s4 s5 s6 s7 s8 s9 s10 s11 s12 : Sl} {s : Sl} {o : O} : putS (s0 :: s1 :: s2 :: s3 :: s4 :: s5 :: s6 :: s7 :: s8 :: s9 :: s10 :: s11 :: s12 :: s :: e) 13 o = s0 :: s1 :: s2 :: s3 :: s4 :: s5 :: s6 :: s7 :: s8 :: s9 :: s10 :: s11 :: s12 :: s.put o :: e := Eq.trans rfl rfl
@[simp] theorem w13c {s0 s1 s2 s3 s4 s5 s6 s7 s8 s9 s10 s11 s12 : Sl} {s : Sl} : lentS (s0 :: s1 :: s2 :: s3 :: s4 :: s5 :: s6 :: s7 :: s8 :: s9 :: s10 :: s11 :: s12 :: s :: e) 13 = s0 :: s1 :: s2 :: s3 :: s4 :: s5 :: s6 :: s7 :: s8 :: s9 :: s10 :: s11 :: s12 :: s.lent :: e := Eq.trans rfl rfl
@[simp] theorem w13d {s0 s1 s2 s3 s4 s5 s6 s7 s8 s9 s10 s11 s12 : Sl} {o : O} : setS (s0 :: s1 :: s2 :: s3 :: s4 :: s5 :: s6 :: s7 :: s8 :: s9 :: s10 :: s11 :: s12 :: .no :: e) 13 o = some (s0 :: s1 :: s2 :: s3 :: s4 :: s5 :: s6 :: s7 :: s8 :: s9 :: s10 :: s11 :: s12 :: .v o :: e) := Eq.trans rfl rfl
@[simp] theorem w13e {s0 s1 s2 s3 s4 s5 s6 s7 s8 s9 s10 s11 s12 : Sl} {o x : O} : setS (s0 :: s1 :: s2 :: s3 :: s4 :: s5 :: s6 :: s7 :: s8 :: s9 :: s10 :: s11 :: s12 :: .v x :: e) 13 o = some (s0 :: s1 :: s2 :: s3 :: s4 :: s5 :: s6 :: s7 :: s8 :: s9 :: s10 :: s11 :: s12 :: .v o :: e) := Eq.trans rfl rfl
@[simp] theorem w13i {s0 s1 s2 s3 s4 s5 s6 s7 s8 s9 s10 s11 s12 : Sl} {s : Sl} {o : O} (h : s.pinned = false) : setS (s0 :: s1 :: s2 :: s3 :: s4 :: s5 :: s6 :: s7 :: s8 :: s9 :: s10 :: s11 :: s12 :: s :: e) 13 o = some (s0 :: s1 :: s2 :: s3 :: s4 :: s5 :: s6 :: s7 :: s8 :: s9 :: s10 :: s11 :: s12 :: .v o :: e) := by simp [setS, h]
@[simp] theorem w13f {s0 s1 s2 s3 s4 s5 s6 s7 s8 s9 s10 s11 s12 : Sl} {o : O} : dMove 13 (s0 :: s1 :: s2 :: s3 :: s4 :: s5 :: s6 :: s7 :: s8 :: s9 :: s10 :: s11 :: s12 :: .v o :: e) = .ok o (s0 :: s1 :: s2 :: s3 :: s4 :: s5 :: s6 :: s7 :: s8 :: s9 :: s10 :: s11 :: s12 :: .no :: e) := Eq.trans rfl rfl
@[simp] theorem w13g {s0 s1 s2 s3 s4 s5 s6 s7 s8 s9 s10 s11 s12 : Sl} {s : Sl} {o q : O} {as : List Ag} {qs : List (Option O)} (h : s.cont = none) : wb (s0 :: s1 :: s2 :: s3 :: s4 :: s5 :: s6 :: s7 :: s8 :: s9 :: s10 :: s11 :: s12 :: s :: e) ((o, some 13) :: as) (some q :: qs) = wb (s0 :: s1 :: s2 :: s3 :: s4 :: s5 :: s6 :: s7 :: s8 :: s9 :: s10 :: s11 :: s12 :: s.put q :: e) as qs := by simp [wb, h, putS, modS]
@[simp] theorem w13h {s0 s1 s2 s3 s4 s5 s6 s7 s8 s9 s10 s11 s12 : Sl} {s : Sl} {t : Sl} : List.set (s0 :: s1 :: s2 :: s3 :: s4 :: s5 :: s6 :: s7 :: s8 :: s9 :: s10 :: s11 :: s12 :: s :: e) 13 t = s0 :: s1 :: s2 :: s3 :: s4 :: s5 :: s6 :: s7 :: s8 :: s9 :: s10 :: s11 :: s12 :: t :: e := Eq.trans rfl rfl
@[simp] theorem w14a {s0 s1 s2 s3 s4 s5 s6 s7 s8 s9 s10 s11 s12 s13 : Sl} {s : Sl} : slot (s0 :: s1 :: s2 :: s3 :: s4 :: s5 :: s6 :: s7 :: s8 :: s9 :: s10 :: s11 :: s12 :: s13 :: s :: e) 14 = s.cont := Eq.trans rfl rfl
@[simp] theorem w14b {s0 s1 s2 s3 s4 s5 s6 s7 s8 s9 s10 s11 s12 s13 : Sl} {s : Sl} {o : O} : putS (s0 :: s1 :: s2 :: s3 :: s4 :: s5 :: s6 :: s7 :: s8 :: s9 :: s10 :: s11 :: s12 :: s13 :: s :: e) 14 o = s0 :: s1 :: s2 :: s3 :: s4 :: s5 :: s6 :: s7 :: s8 :: s9 :: s10 :: s11 :: s12 :: s13 :: s.put o :: e := Eq.trans rfl rfl
@[simp] theorem w14c {s0 s1 s2 s3 s4 s5 s6 s7 s8 s9 s10 s11 s12 s13 : Sl} {s : Sl} : lentS (s0 :: s1 :: s2 :: s3 :: s4 :: s5 :: s6 :: s7 :: s8 :: s9 :: s10 :: s11 :: s12 :: s13 :: s :: e) 14 = s0 :: s1 :: s2 :: s3 :: s4 :: s5 :: s6 :: s7 :: s8 :: s9 :: s10 :: s11 :: s12 :: s13 :: s.lent :: e := Eq.trans rfl rfl
@[simp] theorem w14d {s0 s1 s2 s3 s4 s5 s6 s7 s8 s9 s10 s11 s12 s13 : Sl} {o : O} : setS (s0 :: s1 :: s2 :: s3 :: s4 :: s5 :: s6 :: s7 :: s8 :: s9 :: s10 :: s11 :: s12 :: s13 :: .no :: e) 14 o = some (s0 :: s1 :: s2 :: s3 :: s4 :: s5 :: s6 :: s7 :: s8 :: s9 :: s10 :: s11 :: s12 :: s13 :: .v o :: e) := Eq.trans rfl rfl
@[simp] theorem w14e {s0 s1 s2 s3 s4 s5 s6 s7 s8 s9 s10 s11 s12 s13 : Sl} {o x : O} : setS (s0 :: s1 :: s2 :: s3 :: s4 :: s5 :: s6 :: s7 :: s8 :: s9 :: s10 :: s11 :: s12 :: s13 :: .v x :: e) 14 o = some (s0 :: s1 :: s2 :: s3 :: s4 :: s5 :: s6 :: s7 :: s8 :: s9 :: s10 :: s11 :: s12 :: s13 :: .v o :: e) := Eq.trans rfl rfl
@[simp] theorem w14i {s0 s1 s2 s3 s4 s5 s6 s7 s8 s9 s10 s11 s12 s13 : Sl} {s : Sl} {o : O} (h : s.pinned = false) : setS (s0 :: s1 :: s2 :: s3 :: s4 :: s5 :: s6 :: s7 :: s8 :: s9 :: s10 :: s11 :: s12 :: s13 :: s :: e) 14 o = some (s0 :: s1 :: s2 :: s3 :: s4 :: s5 :: s6 :: s7 :: s8 :: s9 :: s10 :: s11 :: s12 :: s13 :: .v o :: e) := by simp [setS, h]
@[simp] theorem w14f {s0 s1 s2 s3 s4 s5 s6 s7 s8 s9 s10 s11 s12 s13 : Sl} {o : O} : dMove 14 (s0 :: s1 :: s2 :: s3 :: s4 :: s5 :: s6 :: s7 :: s8 :: s9 :: s10 :: s11 :: s12 :: s13 :: .v o :: e) = .ok o (s0 :: s1 :: s2 :: s3 :: s4 :: s5 :: s6 :: s7 :: s8 :: s9 :: s10 :: s11 :: s12 :: s13 :: .no :: e) := Eq.trans rfl rfl
@[simp] theorem w14g {s0 s1 s2 s3 s4 s5 s6 s7 s8 s9 s10 s11 s12 s13 : Sl} {s : Sl} {o q : O} {as : List Ag} {qs : List (Option O)} (h : s.cont = none) : wb (s0 :: s1 :: s2 :: s3 :: s4 :: s5 :: s6 :: s7 :: s8 :: s9 :: s10 :: s11 :: s12 :: s13 :: s :: e) ((o, some 14) :: as) (some q :: qs) = wb (s0 :: s1 :: s2 :: s3 :: s4 :: s5 :: s6 :: s7 :: s8 :: s9 :: s10 :: s11 :: s12 :: s13 :: s.put q :: e) as qs := by simp [wb, h, putS, modS]
@[simp] theorem w14h {s0 s1 s2 s3 s4 s5 s6 s7 s8 s9 s10 s11 s12 s13 : Sl} {s : Sl} {t : Sl} : List.set (s0 :: s1 :: s2 :: s3 :: s4 :: s5 :: s6 :: s7 :: s8 :: s9 :: s10 :: s11 :: s12 :: s13 :: s :: e) 14 t = s0 :: s1 :: s2 :: s3 :: s4 :: s5 :: s6 :: s7 :: s8 :: s9 :: s10 :: s11 :: s12 :: s13 :: t :: e := Eq.trans rfl rfl
@[simp] theorem w15a {s0 s1 s2 s3 s4 s5 s6 s7 s8 s9 s10 s11 s12 s13 s14 : Sl} {s : Sl} : slot (s0 :: s1 :: s2 :: s3 :: s4 :: s5 :: s6 :: s7 :: s8 :: s9 :: s10 :: s11 :: s12 :: s13 :: s14 :: s :: e) 15 = s.cont := Eq.trans rfl rfl
@[simp] theorem w15b {s0 s1 s2 s3 s4 s5 s6 s7 s8 s9 s10 s11 s12 s13 s14 : Sl} {s : Sl} {o : O} : putS (s0 :: s1 :: s2 :: s3 :: s4 :: s5 :: s6 :: s7 :: s8 :: s9 :: s10 :: s11 :: s12 :: s13 :: s14 :: s :: e) 15 o = s0 :: s1 :: s2 :: s3 :: s4 :: s5 :: s6 :: s7 :: s8 :: s9 :: s10 :: s11 :: s12 :: s13 :: s14 :: s.put o :: e := Eq.trans rfl rfl
@[simp] theorem w15c {s0 s1 s2 s3 s4 s5 s6 s7 s8 s9 s10 s11 s12 s13 s14 : Sl} {s : Sl} : lentS (s0 :: s1 :: s2 :: s3 :: s4 :: s5 :: s6 :: s7 :: s8 :: s9 :: s10 :: s11 :: s12 :: s13 :: s14 :: s :: e) 15 = s0 :: s1 :: s2 :: s3 :: s4 :: s5 :: s6 :: s7 :: s8 :: s9 :: s10 :: s11 :: s12 :: s13 :: s14 :: s.lent :: e := Eq.trans rfl rfl
@[simp] theorem w15d {s0 s1 s2 s3 s4 s5 s6 s7 s8 s9 s10 s11 s12 s13 s14 : Sl} {o : O} : setS (s0 :: s1 :: s2 :: s3 :: s4 :: s5 :: s6 :: s7 :: s8 :: s9 :: s10 :: s11 :: s12 :: s13 :: s14 :: .no :: e) 15 o = some (s0 :: s1 :: s2 :: s3 :: s4 :: s5 :: s6 :: s7 :: s8 :: s9 :: s10 :: s11 :: s12 :: s13 :: s14 :: .v o :: e) := Eq.trans rfl rfl
@[simp] theorem w15e {s0 s1 s2 s3 s4 s5 s6 s7 s8 s9 s10 s11 s12 s13 s14 : Sl} {o x : O} : setS (s0 :: s1 :: s2 :: s3 :: s4 :: s5 :: s6 :: s7 :: s8 :: s9 :: s10 :: s11 :: s12 :: s13 :: s14 :: .v x :: e) 15 o = some (s0 :: s1 :: s2 :: s3 :: s4 :: s5 :: s6 :: s7 :: s8 :: s9 :: s10 :: s11 :: s12 :: s13 :: s14 :: .v o :: e) := Eq.trans rfl rfl
@[simp] theorem w15i {s0 s1 s2 s3 s4 s5 s6 s7 s8 s9 s10 s11 s12 s13 s14 : Sl} {s : Sl} {o : O} (h : s.pinned = false) : setS (s0 :: s1 :: s2 :: s3 :: s4 :: s5 :: s6 :: s7 :: s8 :: s9 :: s10 :: s11 :: s12 :: s13 :: s14 :: s :: e) 15 o = some (s0 :: s1 :: s2 :: s3 :: s4 :: s5 :: s6 :: s7 :: s8 :: s9 :: s10 :: s11 :: s12 :: s13 :: s14 :: .v o :: e) := by simp [setS, h]
@[simp] theorem w15f {s0 s1 s2 s3 s4 s5 s6 s7 s8 s9 s10 s11 s12 s13 s14 : Sl} {o : O} : dMove 15 (s0 :: s1 :: s2 :: s3 :: s4 :: s5 :: s6 :: s7 :: s8 :: s9 :: s10 :: s11 :: s12 :: s13 :: s14 :: .v o :: e) = .ok o (s0 :: s1 :: s2 :: s3 :: s4 :: s5 :: s6 :: s7 :: s8 :: s9 :: s10 :: s11 :: s12 :: s13 :: s14 :: .no :: e) := Eq.trans rfl rfl
@[simp] theorem w15g {s0 s1 s2 s3 s4 s5 s6 s7 s8 s9 s10 s11 s12 s13 s14 : Sl} {s : Sl} {o q : O} {as : List Ag} {qs : List (Option O)} (h : s.cont = none) : wb (s0 :: s1 :: s2 :: s3 :: s4 :: s5 :: s6 :: s7 :: s8 :: s9 :: s10 :: s11 :: s12 :: s13 :: s14 :: s :: e) ((o, some 15) :: as) (some q :: qs) = wb (s0 :: s1 :: s2 :: s3 :: s4 :: s5 :: s6 :: s7 :: s8 :: s9 :: s10 :: s11 :: s12 :: s13 :: s14 :: s.put q :: e) as qs := by simp [wb, h, putS, modS]
@[simp] theorem w15h {s0 s1 s2 s3 s4 s5 s6 s7 s8 s9 s10 s11 s12 s13 s14 : Sl} {s : Sl} {t : Sl} : List.set (s0 :: s1 :: s2 :: s3 :: s4 :: s5 :: s6 :: s7 :: s8 :: s9 :: s10 :: s11 :: s12 :: s13 :: s14 :: s :: e) 15 t = s0 :: s1 :: s2 :: s3 :: s4 :: s5 :: s6 :: s7 :: s8 :: s9 :: s10 :: s11 :: s12 :: s13 :: s14 :: t :: e := Eq.trans rfl rfl
@[simp] theorem w16a {s0 s1 s2 s3 s4 s5 s6 s7 s8 s9 s10 s11 s12 s13 s14 s15 : Sl} {s : Sl} : slot (s0 :: s1 :: s2 :: s3 :: s4 :: s5 :: s6 :: s7 :: s8 :: s9 :: s10 :: s11 :: s12 :: s13 :: s14 :: s15 :: s :: e) 16 = s.cont := Eq.trans rfl rfl
@[simp] theorem w16b {s0 s1 s2 s3 s4 s5 s6 s7 s8 s9 s10 s11 s12 s13 s14 s15 : Sl} {s : Sl} {o : O} : putS (s0 :: s1 :: s2 :: s3 :: s4 :: s5 :: s6 :: s7 :: s8 :: s9 :: s10 :: s11 :: s12 :: s13 :: s14 :: s15 :: s :: e) 16 o = s0 :: s1 :: s2 :: s3 :: s4 :: s5 :: s6 :: s7 :: s8 :: s9 :: s10 :: s11 :: s12 :: s13 :: s14 :: s15 :: s.put o :: e := Eq.trans rfl rfl
@[simp] theorem w16c {s0 s1 s2 s3 s4 s5 s6 s7 s8 s9 s10 s11 s12 s13 s14 s15 : Sl} {s : Sl} : lentS (s0 :: s1 :: s2 :: s3 :: s4 :: s5 :: s6 :: s7 :: s8 :: s9 :: s10 :: s11 :: s12 :: s13 :: s14 :: s15 :: s :: e) 16 = s0 :: s1 :: s2 :: s3 :: s4 :: s5 :: s6 :: s7 :: s8 :: s9 :: s10 :: s11 :: s12 :: s13 :: s14 :: s15 :: s.lent :: e := Eq.trans rfl rfl
@[simp] theorem w16d {s0 s1 s2 s3 s4 s5 s6 s7 s8 s9 s10 s11 s12 s13 s14 s15 : Sl} {o : O} : setS (s0 :: s1 :: s2 :: s3 :: s4 :: s5 :: s6 :: s7 :: s8 :: s9 :: s10 :: s11 :: s12 :: s13 :: s14 :: s15 :: .no :: e) 16 o = some (s0 :: s1 :: s2 :: s3 :: s4 :: s5 :: s6 :: s7 :: s8 :: s9 :: s10 :: s11 :: s12 :: s13 :: s14 :: s15 :: .v o :: e) := Eq.trans rfl rfl
@[simp] theorem w16e {s0 s1 s2 s3 s4 s5 s6 s7 s8 s9 s10 s11 s12 s13 s14 s15 : Sl} {o x : O} : setS (s0 :: s1 :: s2 :: s3 :: s4 :: s5 :: s6 :: s7 :: s8 :: s9 :: s10 :: s11 :: s12 :: s13 :: s14 :: s15 :: .v x :: e) 16 o = some (s0 :: s1 :: s2 :: s3 :: s4 :: s5 :: s6 :: s7 :: s8 :: s9 :: s10 :: s11 :: s12 :: s13 :: s14 :: s15 :: .v o :: e) := Eq.trans rfl rfl
@[simp] theorem w16i {s0 s1 s2 s3 s4 s5 s6 s7 s8 s9 s10 s11 s12 s13 s14 s15 : Sl} {s : Sl} {o : O} (h : s.pinned = false) : setS (s0 :: s1 :: s2 :: s3 :: s4 :: s5 :: s6 :: s7 :: s8 :: s9 :: s10 :: s11 :: s12 :: s13 :: s14 :: s15 :: s :: e) 16 o = some (s0 :: s1 :: s2 :: s3 :: s4 :: s5 :: s6 :: s7 :: s8 :: s9 :: s10 :: s11 :: s12 :: s13 :: s14 :: s15 :: .v o :: e) := by simp [setS, h]
@[simp] theorem w16f {s0 s1 s2 s3 s4 s5 s6 s7 s8 s9 s10 s11 s12 s13 s14 s15 : Sl} {o : O} : dMove 16 (s0 :: s1 :: s2 :: s3 :: s4 :: s5 :: s6 :: s7 :: s8 :: s9 :: s10 :: s11 :: s12 :: s13 :: s14 :: s15 :: .v o :: e) = .ok o (s0 :: s1 :: s2 :: s3 :: s4 :: s5 :: s6 :: s7 :: s8 :: s9 :: s10 :: s11 :: s12 :: s13 :: s14 :: s15 :: .no :: e) := Eq.trans rfl rfl
@[simp] theorem w16g {s0 s1 s2 s3 s4 s5 s6 s7 s8 s9 s10 s11 s12 s13 s14 s15 : Sl} {s : Sl} {o q : O} {as : List Ag} {qs : List (Option O)} (h : s.cont = none) : wb (s0 :: s1 :: s2 :: s3 :: s4 :: s5 :: s6 :: s7 :: s8 :: s9 :: s10 :: s11 :: s12 :: s13 :: s14 :: s15 :: s :: e) ((o, some 16) :: as) (some q :: qs) = wb (s0 :: s1 :: s2 :: s3 :: s4 :: s5 :: s6 :: s7 :: s8 :: s9 :: s10 :: s11 :: s12 :: s13 :: s14 :: s15 :: s.put q :: e) as qs := by simp [wb, h, putS, modS]
@[simp] theorem w16h {s0 s1 s2 s3 s4 s5 s6 s7 s8 s9 s10 s11 s12 s13 s14 s15 : Sl} {s : Sl} {t : Sl} : List.set (s0 :: s1 :: s2 :: s3 :: s4 :: s5 :: s6 :: s7 :: s8 :: s9 :: s10 :: s11 :: s12 :: s13 :: s14 :: s15 :: s :: e) 16 t = s0 :: s1 :: s2 :: s3 :: s4 :: s5 :: s6 :: s7 :: s8 :: s9 :: s10 :: s11 :: s12 :: s13 :: s14 :: s15 :: t :: e := Eq.trans rfl rfl
@[simp] theorem w17a {s0 s1 s2 s3 s4 s5 s6 s7 s8 s9 s10 s11 s12 s13 s14 s15 s16 : Sl} {s : Sl} : slot (s0 :: s1 :: s2 :: s3 :: s4 :: s5 :: s6 :: s7 :: s8 :: s9 :: s10 :: s11 :: s12 :: s13 :: s14 :: s15 :: s16 :: s :: e) 17 = s.cont := Eq.trans rfl rfl
@[simp] theorem w17b {s0 s1 s2 s3 s4 s5 s6 s7 s8 s9 s10 s11 s12 s13 s14 s15 s16 : Sl} {s : Sl} {o : O} : putS (s0 :: s1 :: s2 :: s3 :: s4 :: s5 :: s6 :: s7 :: s8 :: s9 :: s10 :: s11 :: s12 :: s13 :: s14 :: s15 :: s16 :: s :: e) 17 o = s0 :: s1 :: s2 :: s3 :: s4 :: s5 :: s6 :: s7 :: s8 :: s9 :: s10 :: s11 :: s12 :: s13 :: s14 :: s15 :: s16 :: s.put o :: e := Eq.trans rfl rfl
@[simp] theorem w17c {s0 s1 s2 s3 s4 s5 s6 s7 s8 s9 s10 s11 s12 s13 s14 s15 s16 : Sl} {s : Sl} : lentS (s0 :: s1 :: s2 :: s3 :: s4 :: s5 :: s6 :: s7 :: s8 :: s9 :: s10 :: s11 :: s12 :: s13 :: s14 :: s15 :: s16 :: s :: e) 17 = s0 :: s1 :: s2 :: s3 :: s4 :: s5 :: s6 :: s7 :: s8 :: s9 :: s10 :: s11 :: s12 :: s13 :: s14 :: s15 :: s16 :: s.lent :: e := Eq.trans rfl rfl
@[simp] theorem w17d {s0 s1 s2 s3 s4 s5 s6 s7 s8 s9 s10 s11 s12 s13 s14 s15 s16 : Sl} {o : O} : setS (s0 :: s1 :: s2 :: s3 :: s4 :: s5 :: s6 :: s7 :: s8 :: s9 :: s10 :: s11 :: s12 :: s13 :: s14 :: s15 :: s16 :: .no :: e) 17 o = some (s0 :: s1 :: s2 :: s3 :: s4 :: s5 :: s6 :: s7 :: s8 :: s9 :: s10 :: s11 :: s12 :: s13 :: s14 :: s15 :: s16 :: .v o :: e) := Eq.trans rfl rfl
@[simp] theorem w17e {s0 s1 s2 s3 s4 s5 s6 s7 s8 s9 s10 s11 s12 s13 s14 s15 s16 : Sl} {o x : O} : setS (s0 :: s1 :: s2 :: s3 :: s4 :: s5 :: s6 :: s7 :: s8 :: s9 :: s10 :: s11 :: s12 :: s13 :: s14 :: s15 :: s16 :: .v x :: e) 17 o = some (s0 :: s1 :: s2 :: s3 :: s4 :: s5 :: s6 :: s7 :: s8 :: s9 :: s10 :: s11 :: s12 :: s13 :: s14 :: s15 :: s16 :: .v o :: e) := Eq.trans rfl rfl
@[simp] theorem w17i {s0 s1 s2 s3 s4 s5 s6 s7 s8 s9 s10 s11 s12 s13 s14 s15 s16 : Sl} {s : Sl} {o : O} (h : s.pinned = false) : setS (s0 :: s1 :: s2 :: s3 :: s4 :: s5 :: s6 :: s7 :: s8 :: s9 :: s10 :: s11 :: s12 :: s13 :: s14 :: s15 :: s16 :: s :: e) 17 o = some (s0 :: s1 :: s2 :: s3 :: s4 :: s5 :: s6 :: s7 :: s8 :: s9 :: s10 :: s11 :: s12 :: s13 :: s14 :: s15 :: s16 :: .v o :: e) := by simp [setS, h]
@[simp] theorem w17f {s0 s1 s2 s3 s4 s5 s6 s7 s8 s9 s10 s11 s12 s13 s14 s15 s16 : Sl} {o : O} : dMove 17 (s0 :: s1 :: s2 :: s3 :: s4 :: s5 :: s6 :: s7 :: s8 :: s9 :: s10 :: s11 :: s12 :: s13 :: s14 :: s15 :: s16 :: .v o :: e) = .ok o (s0 :: s1 :: s2 :: s3 :: s4 :: s5 :: s6 :: s7 :: s8 :: s9 :: s10 :: s11 :: s12 :: s13 :: s14 :: s15 :: s16 :: .no :: e) := Eq.trans rfl rfl
@[simp] theorem w17g {s0 s1 s2 s3 s4 s5 s6 s7 s8 s9 s10 s11 s12 s13 s14 s15 s16 : Sl} {s : Sl} {o q : O} {as : List Ag} {qs : List (Option O)} (h : s.cont = none) : wb (s0 :: s1 :: s2 :: s3 :: s4 :: s5 :: s6 :: s7 :: s8 :: s9 :: s10 :: s11 :: s12 :: s13 :: s14 :: s15 :: s16 :: s :: e) ((o, some 17) :: as) (some q :: qs) = wb (s0 :: s1 :: s2 :: s3 :: s4 :: s5 :: s6 :: s7 :: s8 :: s9 :: s10 :: s11 :: s12 :: s13 :: s14 :: s15 :: s16 :: s.put q :: e) as qs := by simp [wb, h, putS, modS]
@[simp] theorem w17h {s0 s1 s2 s3 s4 s5 s6 s7 s8 s9 s10 s11 s12 s13 s14 s15 s16 : Sl} {s : Sl} {t : Sl} : List.set (s0 :: s1 :: s2 :: s3 :: s4 :: s5 :: s6 :: s7 :: s8 :: s9 :: s10 :: s11 :: s12 :: s13 :: s14 :: s15 :: s16 :: s :: e) 17 t = s0 :: s1 :: s2 :: s3 :: s4 :: s5 :: s6 :: s7 :: s8 :: s9 :: s10 :: s11 :: s12 :: s13 :: s14 :: s15 :: s16 :: t :: e := Eq.trans rfl rfl
@[simp] theorem w18a {s0 s1 s2 s3 s4 s5 s6 s7 s8 s9 s10 s11 s12 s13 s14 s15 s16 s17 : Sl} {s : Sl} : slot (s0 :: s1 :: s2 :: s3 :: s4 :: s5 :: s6 :: s7 :: s8 :: s9 :: s10 :: s11 :: s12 :: s13 :: s14 :: s15 :: s16 :: s17 :: s :: e) 18 = s.cont := Eq.trans rfl rfl
@[simp] theorem w18b {s0 s1 s2 s3 s4 s5 s6 s7 s8 s9 s10 s11 s12 s13 s14 s15 s16 s17 : Sl} {s : Sl} {o : O} : putS (s0 :: s1 :: s2 :: s3 :: s4 :: s5 :: s6 :: s7 :: s8 :: s9 :: s10 :: s11 :: s12 :: s13 :: s14 :: s15 :: s16 :: s17 :: s :: e) 18 o = s0 :: s1 :: s2 :: s3 :: s4 :: s5 :: s6 :: s7 :: s8 :: s9 :: s10 :: s11 :: s12 :: s13 :: s14 :: s15 :: s16 :: s17 :: s.put o :: e := Eq.trans rfl rfl
@[simp] theorem w18c {s0 s1 s2 s3 s4 s5 s6 s7 s8 s9 s10 s11 s12 s13 s14 s15 s16 s17 : Sl} {s : Sl} : lentS (s0 :: s1 :: s2 :: s3 :: s4 :: s5 :: s6 :: s7 :: s8 :: s9 :: s10 :: s11 :: s12 :: s13 :: s14 :: s15 :: s16 :: s17 :: s :: e) 18 = s0 :: s1 :: s2 :: s3 :: s4 :: s5 :: s6 :: s7 :: s8 :: s9 :: s10 :: s11 :: s12 :: s13 :: s14 :: s15 :: s16 :: s17 :: s.lent :: e := Eq.trans rfl rfl
@[simp] theorem w18d {s0 s1 s2 s3 s4 s5 s6 s7 s8 s9 s10 s11 s12 s13 s14 s15 s16 s17 : Sl} {o : O} : setS (s0 :: s1 :: s2 :: s3 :: s4 :: s5 :: s6 :: s7 :: s8 :: s9 :: s10 :: s11 :: s12 :: s13 :: s14 :: s15 :: s16 :: s17 :: .no :: e) 18 o = some (s0 :: s1 :: s2 :: s3 :: s4 :: s5 :: s6 :: s7 :: s8 :: s9 :: s10 :: s11 :: s12 :: s13 :: s14 :: s15 :: s16 :: s17 :: .v o :: e) := Eq.trans rfl rfl
@[simp] theorem w18e {s0 s1 s2 s3 s4 s5 s6 s7 s8 s9 s10 s11 s12 s13 s14 s15 s16 s17 : Sl} {o x : O} : setS (s0 :: s1 :: s2 :: s3 :: s4 :: s5 :: s6 :: s7 :: s8 :: s9 :: s10 :: s11 :: s12 :: s13 :: s14 :: s15 :: s16 :: s17 :: .v x :: e) 18 o = some (s0 :: s1 :: s2 :: s3 :: s4 :: s5 :: s6 :: s7 :: s8 :: s9 :: s10 :: s11 :: s12 :: s13 :: s14 :: s15 :: s16 :: s17 :: .v o :: e) := Eq.trans rfl rfl
@[simp] theorem w18i {s0 s1 s2 s3 s4 s5 s6 s7 s8 s9 s10 s11 s12 s13 s14 s15 s16 s17 : Sl} {s : Sl} {o : O} (h : s.pinned = false) : setS (s0 :: s1 :: s2 :: s3 :: s4 :: s5 :: s6 :: s7 :: s8 :: s9 :: s10 :: s11 :: s12 :: s13 :: s14 :: s15 :: s16 :: s17 :: s :: e) 18 o = some (s0 :: s1 :: s2 :: s3 :: s4 :: s5 :: s6 :: s7 :: s8 :: s9 :: s10 :: s11 :: s12 :: s13 :: s14 :: s15 :: s16 :: s17 :: .v o :: e) := by simp [setS, h]
@[simp] theorem w18f {s0 s1 s2 s3 s4 s5 s6 s7 s8 s9 s10 s11 s12 s13 s14 s15 s16 s17 : Sl} {o : O} : dMove 18 (s0 :: s1 :: s2 :: s3 :: s4 :: s5 :: s6 :: s7 :: s8 :: s9 :: s10 :: s11 :: s12 :: s13 :: s14 :: s15 :: s16 :: s17 :: .v o :: e) = .ok o (s0 :: s1 :: s2 :: s3 :: s4 :: s5 :: s6 :: s7 :: s8 :: s9 :: s10 :: s11 :: s12 :: s13 :: s14 :: s15 :: s16 :: s17 :: .no :: e) := Eq.trans rfl rfl
@[simp] theorem w18g {s0 s1 s2 s3 s4 s5 s6 s7 s8 s9 s10 s11 s12 s13 s14 s15 s16 s17 : Sl} {s : Sl} {o q : O} {as : List Ag} {qs : List (Option O)} (h : s.cont = none) : wb (s0 :: s1 :: s2 :: s3 :: s4 :: s5 :: s6 :: s7 :: s8 :: s9 :: s10 :: s11 :: s12 :: s13 :: s14 :: s15 :: s16 :: s17 :: s :: e) ((o, some 18) :: as) (some q :: qs) = wb (s0 :: s1 :: s2 :: s3 :: s4 :: s5 :: s6 :: s7 :: s8 :: s9 :: s10 :: s11 :: s12 :: s13 :: s14 :: s15 :: s16 :: s17 :: s.put q :: e) as qs := by simp [wb, h, putS, modS]
@[simp] theorem w18h {s0 s1 s2 s3 s4 s5 s6 s7 s8 s9 s10 s11 s12 s13 s14 s15 s16 s17 : Sl} {s : Sl} {t : Sl} : List.set (s0 :: s1 :: s2 :: s3 :: s4 :: s5 :: s6 :: s7 :: s8 :: s9 :: s10 :: s11 :: s12 :: s13 :: s14 :: s15 :: s16 :: s17 :: s :: e) 18 t = s0 :: s1 :: s2 :: s3 :: s4 :: s5 :: s6 :: s7 :: s8 :: s9 :: s10 :: s11 :: s12 :: s13 :: s14 :: s15 :: s16 :: s17 :: t :: e := Eq.trans rfl rfl
@[simp] theorem w19a {s0 s1 s2 s3 s4 s5 s6 s7 s8 s9 s10 s11 s12 s13 s14 s15 s16 s17 s18 : Sl} {s : Sl} : slot (s0 :: s1 :: s2 :: s3 :: s4 :: s5 :: s6 :: s7 :: s8 :: s9 :: s10 :: s11 :: s12 :: s13 :: s14 :: s15 :: s16 :: s17 :: s18 :: s :: e) 19 = s.cont := Eq.trans rfl rfl
@[simp] theorem w19b {s0 s1 s2 s3 s4 s5 s6 s7 s8 s9 s10 s11 s12 s13 s14 s15 s16 s17 s18 : Sl} {s : Sl} {o : O} : putS (s0 :: s1 :: s2 :: s3 :: s4 :: s5 :: s6 :: s7 :: s8 :: s9 :: s10 :: s11 :: s12 :: s13 :: s14 :: s15 :: s16 :: s17 :: s18 :: s :: e) 19 o = s0 :: s1 :: s2 :: s3 :: s4 :: s5 :: s6 :: s7 :: s8 :: s9 :: s10 :: s11 :: s12 :: s13 :: s14 :: s15 :: s16 :: s17 :: s18 :: s.put o :: e := Eq.trans rfl rfl
@[simp] theorem w19c {s0 s1 s2 s3 s4 s5 s6 s7 s8 s9 s10 s11 s12 s13 s14 s15 s16 s17 s18 : Sl} {s : Sl} : lentS (s0 :: s1 :: s2 :: s3 :: s4 :: s5 :: s6 :: s7 :: s8 :: s9 :: s10 :: s11 :: s12 :: s13 :: s14 :: s15 :: s16 :: s17 :: s18 :: s :: e) 19 = s0 :: s1 :: s2 :: s3 :: s4 :: s5 :: s6 :: s7 :: s8 :: s9 :: s10 :: s11 :: s12 :: s13 :: s14 :: s15 :: s16 :: s17 :: s18 :: s.lent :: e := Eq.trans rfl rfl
@[simp] theorem w19d {s0 s1 s2 s3 s4 s5 s6 s7 s8 s9 s10 s11 s12 s13 s14 s15 s16 s17 s18 : Sl} {o : O} : setS (s0 :: s1 :: s2 :: s3 :: s4 :: s5 :: s6 :: s7 :: s8 :: s9 :: s10 :: s11 :: s12 :: s13 :: s14 :: s15 :: s16 :: s17 :: s18 :: .no :: e) 19 o = some (s0 :: s1 :: s2 :: s3 :: s4 :: s5 :: s6 :: s7 :: s8 :: s9 :: s10 :: s11 :: s12 :: s13 :: s14 :: s15 :: s16 :: s17 :: s18 :: .v o :: e) := Eq.trans rfl rfl
@[simp] theorem w19e {s0 s1 s2 s3 s4 s5 s6 s7 s8 s9 s10 s11 s12 s13 s14 s15 s16 s17 s18 : Sl} {o x : O} : setS (s0 :: s1 :: s2 :: s3 :: s4 :: s5 :: s6 :: s7 :: s8 :: s9 :: s10 :: s11 :: s12 :: s13 :: s14 :: s15 :: s16 :: s17 :: s18 :: .v x :: e) 19 o = some (s0 :: s1 :: s2 :: s3 :: s4 :: s5 :: s6 :: s7 :: s8 :: s9 :: s10 :: s11 :: s12 :: s13 :: s14 :: s15 :: s16 :: s17 :: s18 :: .v o :: e) := Eq.trans rfl rfl
@[simp] theorem w19i {s0 s1 s2 s3 s4 s5 s6 s7 s8 s9 s10 s11 s12 s13 s14 s15 s16 s17 s18 : Sl} {s : Sl} {o : O} (h : s.pinned = false) : setS (s0 :: s1 :: s2 :: s3 :: s4 :: s5 :: s6 :: s7 :: s8 :: s9 :: s10 :: s11 :: s12 :: s13 :: s14 :: s15 :: s16 :: s17 :: s18 :: s :: e) 19 o = some (s0 :: s1 :: s2 :: s3 :: s4 :: s5 :: s6 :: s7 :: s8 :: s9 :: s10 :: s11 :: s12 :: s13 :: s14 :: s15 :: s16 :: s17 :: s18 :: .v o :: e) := by simp [setS, h]
@[simp] theorem w19f {s0 s1 s2 s3 s4 s5 s6 s7 s8 s9 s10 s11 s12 s13 s14 s15 s16 s17 s18 : Sl} {o : O} : dMove 19 (s0 :: s1 :: s2 :: s3 :: s4 :: s5 :: s6 :: s7 :: s8 :: s9 :: s10 :: s11 :: s12 :: s13 :: s14 :: s15 :: s16 :: s17 :: s18 :: .v o :: e) = .ok o (s0 :: s1 :: s2 :: s3 :: s4 :: s5 :: s6 :: s7 :: s8 :: s9 :: s10 :: s11 :: s12 :: s13 :: s14 :: s15 :: s16 :: s17 :: s18 :: .no :: e) := Eq.trans rfl rfl
@[simp] theorem w19g {s0 s1 s2 s3 s4 s5 s6 s7 s8 s9 s10 s11 s12 s13 s14 s15 s16 s17 s18 : Sl} {s : Sl} {o q : O} {as : List Ag} {qs : List (Option O)} (h : s.cont = none) : wb (s0 :: s1 :: s2 :: s3 :: s4 :: s5 :: s6 :: s7 :: s8 :: s9 :: s10 :: s11 :: s12 :: s13 :: s14 :: s15 :: s16 :: s17 :: s18 :: s :: e) ((o, some 19) :: as) (some q :: qs) = wb (s0 :: s1 :: s2 :: s3 :: s4 :: s5 :: s6 :: s7 :: s8 :: s9 :: s10 :: s11 :: s12 :: s13 :: s14 :: s15 :: s16 :: s17 :: s18 :: s.put q :: e) as qs := by simp [wb, h, putS, modS]
@[simp] theorem w19h {s0 s1 s2 s3 s4 s5 s6 s7 s8 s9 s10 s11 s12 s13 s14 s15 s16 s17 s18 : Sl} {s : Sl} {t : Sl} : List.set (s0 :: s1 :: s2 :: s3 :: s4 :: s5 :: s6 :: s7 :: s8 :: s9 :: s10 :: s11 :: s12 :: s13 :: s14 :: s15 :: s16 :: s17 :: s18 :: s :: e) 19 t = s0 :: s1 :: s2 :: s3 :: s4 :: s5 :: s6 :: s7 :: s8 :: s9 :: s10 :: s11 :: s12 :: s13 :: s14 :: s15 :: s16 :: s17 :: s18 :: t :: e := Eq.trans rfl rfl
@[simp] theorem w20a {s0 s1 s2 s3 s4 s5 s6 s7 s8 s9 s10 s11 s12 s13 s14 s15 s16 s17 s18 s19 : Sl} {s : Sl} : slot (s0 :: s1 :: s2 :: s3 :: s4 :: s5 :: s6 :: s7 :: s8 :: s9 :: s10 :: s11 :: s12 :: s13 :: s14 :: s15 :: s16 :: s17 :: s18 :: s19 :: s :: e) 20 = s.cont := Eq.trans rfl rfl
@[simp] theorem w20b {s0 s1 s2 s3 s4 s5 s6 s7 s8 s9 s10 s11 s12 s13 s14 s15 s16 s17 s18 s19 : Sl} {s : Sl} {o : O} : putS (s0 :: s1 :: s2 :: s3 :: s4 :: s5 :: s6 :: s7 :: s8 :: s9 :: s10 :: s11 :: s12 :: s13 :: s14 :: s15 :: s16 :: s17 :: s18 :: s19 :: s :: e) 20 o = s0 :: s1 :: s2 :: s3 :: s4 :: s5 :: s6 :: s7 :: s8 :: s9 :: s10 :: s11 :: s12 :: s13 :: s14 :: s15 :: s16 :: s17 :: s18 :: s19 :: s.put o :: e := Eq.trans rfl rfl
@[simp] theorem w20c {s0 s1 s2 s3 s4 s5 s6 s7 s8 s9 s10 s11 s12 s13 s14 s15 s16 s17 s18 s19 : Sl} {s : Sl} : lentS (s0 :: s1 :: s2 :: s3 :: s4 :: s5 :: s6 :: s7 :: s8 :: s9 :: s10 :: s11 :: s12 :: s13 :: s14 :: s15 :: s16 :: s17 :: s18 :: s19 :: s :: e) 20 = s0 :: s1 :: s2 :: s3 :: s4 :: s5 :: s6 :: s7 :: s8 :: s9 :: s10 :: s11 :: s12 :: s13 :: s14 :: s15 :: s16 :: s17 :: s18 :: s19 :: s.lent :: e := Eq.trans rfl rfl
@[simp] theorem w20d {s0 s1 s2 s3 s4 s5 s6 s7 s8 s9 s10 s11 s12 s13 s14 s15 s16 s17 s18 s19 : Sl} {o : O} : setS (s0 :: s1 :: s2 :: s3 :: s4 :: s5 :: s6 :: s7 :: s8 :: s9 :: s10 :: s11 :: s12 :: s13 :: s14 :: s15 :: s16 :: s17 :: s18 :: s19 :: .no :: e) 20 o = some (s0 :: s1 :: s2 :: s3 :: s4 :: s5 :: s6 :: s7 :: s8 :: s9 :: s10 :: s11 :: s12 :: s13 :: s14 :: s15 :: s16 :: s17 :: s18 :: s19 :: .v o :: e) := Eq.trans rfl rfl
@[simp] theorem w20e {s0 s1 s2 s3 s4 s5 s6 s7 s8 s9 s10 s11 s12 s13 s14 s15 s16 s17 s18 s19 : Sl} {o x : O} : setS (s0 :: s1 :: s2 :: s3 :: s4 :: s5 :: s6 :: s7 :: s8 :: s9 :: s10 :: s11 :: s12 :: s13 :: s14 :: s15 :: s16 :: s17 :: s18 :: s19 :: .v x :: e) 20 o = some (s0 :: s1 :: s2 :: s3 :: s4 :: s5 :: s6 :: s7 :: s8 :: s9 :: s10 :: s11 :: s12 :: s13 :: s14 :: s15 :: s16 :: s17 :: s18 :: s19 :: .v o :: e) := Eq.trans rfl rfl
@[simp] theorem w20i {s0 s1 s2 s3 s4 s5 s6 s7 s8 s9 s10 s11 s12 s13 s14 s15 s16 s17 s18 s19 : Sl} {s : Sl} {o : O} (h : s.pinned = false) : setS (s0 :: s1 :: s2 :: s3 :: s4 :: s5 :: s6 :: s7 :: s8 :: s9 :: s10 :: s11 :: s12 :: s13 :: s14 :: s15 :: s16 :: s17 :: s18 :: s19 :: s :: e) 20 o = some (s0 :: s1 :: s2 :: s3 :: s4 :: s5 :: s6 :: s7 :: s8 :: s9 :: s10 :: s11 :: s12 :: s13 :: s14 :: s15 :: s16 :: s17 :: s18 :: s19 :: .v o :: e) := by simp [setS, h]
@[simp] theorem w20f {s0 s1 s2 s3 s4 s5 s6 s7 s8 s9 s10 s11 s12 s13 s14 s15 s16 s17 s18 s19 : Sl} {o : O} : dMove 20 (s0 :: s1 :: s2 :: s3 :: s4 :: s5 :: s6 :: s7 :: s8 :: s9 :: s10 :: s11 :: s12 :: s13 :: s14 :: s15 :: s16 :: s17 :: s18 :: s19 :: .v o :: e) = .ok o (s0 :: s1 :: s2 :: s3 :: s4 :: s5 :: s6 :: s7 :: s8 :: s9 :: s10 :: s11 :: s12 :: s13 :: s14 :: s15 :: s16 :: s17 :: s18 :: s19 :: .no :: e) := Eq.trans rfl rfl
@[simp] theorem w20g {s0 s1 s2 s3 s4 s5 s6 s7 s8 s9 s10 s11 s12 s13 s14 s15 s16 s17 s18 s19 : Sl} {s : Sl} {o q : O} {as : List Ag} {qs : List (Option O)} (h : s.cont = none) : wb (s0 :: s1 :: s2 :: s3 :: s4 :: s5 :: s6 :: s7 :: s8 :: s9 :: s10 :: s11 :: s12 :: s13 :: s14 :: s15 :: s16 :: s17 :: s18 :: s19 :: s :: e) ((o, some 20) :: as) (some q :: qs) = wb (s0 :: s1 :: s2 :: s3 :: s4 :: s5 :: s6 :: s7 :: s8 :: s9 :: s10 :: s11 :: s12 :: s13 :: s14 :: s15 :: s16 :: s17 :: s18 :: s19 :: s.put q :: e) as qs := by simp [wb, h, putS, modS]
@[simp] theorem w20h {s0 s1 s2 s3 s4 s5 s6 s7 s8 s9 s10 s11 s12 s13 s14 s15 s16 s17 s18 s19 : Sl} {s : Sl} {t : Sl} : List.set (s0 :: s1 :: s2 :: s3 :: s4 :: s5 :: s6 :: s7 :: s8 :: s9 :: s10 :: s11 :: s12 :: s13 :: s14 :: s15 :: s16 :: s17 :: s18 :: s19 :: s :: e) 20 t = s0 :: s1 :: s2 :: s3 :: s4 :: s5 :: s6 :: s7 :: s8 :: s9 :: s10 :: s11 :: s12 :: s13 :: s14 :: s15 :: s16 :: s17 :: s18 :: s19 :: t :: e := Eq.trans rfl rfl
@[simp] theorem w21a {s0 s1 s2 s3 s4 s5 s6 s7 s8 s9 s10 s11 s12 s13 s14 s15 s16 s17 s18 s19 s20 : Sl} {s : Sl} : slot (s0 :: s1 :: s2 :: s3 :: s4 :: s5 :: s6 :: s7 :: s8 :: s9 :: s10 :: s11 :: s12 :: s13 :: s14 :: s15 :: s16 :: s17 :: s18 :: s19 :: s20 :: s :: e) 21 = s.cont := Eq.trans rfl rfl
@[simp] theorem w21b {s0 s1 s2 s3 s4 s5 s6 s7 s8 s9 s10 s11 s12 s13 s14 s15 s16 s17 s18 s19 s20 : Sl} {s : Sl} {o : O} : putS (s0 :: s1 :: s2 :: s3 :: s4 :: s5 :: s6 :: s7 :: s8 :: s9 :: s10 :: s11 :: s12 :: s13 :: s14 :: s15 :: s16 :: s17 :: s18 :: s19 :: s20 :: s :: e) 21 o = s0 :: s1 :: s2 :: s3 :: s4 :: s5 :: s6 :: s7 :: s8 :: s9 :: s10 :: s11 :: s12 :: s13 :: s14 :: s15 :: s16 :: s17 :: s18 :: s19 :: s20 :: s.put o :: e := Eq.trans rfl rfl
@[simp] theorem w21c {s0 s1 s2 s3 s4 s5 s6 s7 s8 s9 s10 s11 s12 s13 s14 s15 s16 s17 s18 s19 s20 : Sl} {s : Sl} : lentS (s0 :: s1 :: s2 :: s3 :: s4 :: s5 :: s6 :: s7 :: s8 :: s9 :: s10 :: s11 :: s12 :: s13 :: s14 :: s15 :: s16 :: s17 :: s18 :: s19 :: s20 :: s :: e) 21 = s0 :: s1 :: s2 :: s3 :: s4 :: s5 :: s6 :: s7 :: s8 :: s9 :: s10 :: s11 :: s12 :: s13 :: s14 :: s15 :: s16 :: s17 :: s18 :: s19 :: s20 :: s.lent :: e := Eq.trans rfl rfl
@[simp] theorem w21d {s0 s1 s2 s3 s4 s5 s6 s7 s8 s9 s10 s11 s12 s13 s14 s15 s16 s17 s18 s19 s20 : Sl} {o : O} : setS (s0 :: s1 :: s2 :: s3 :: s4 :: s5 :: s6 :: s7 :: s8 :: s9 :: s10 :: s11 :: s12 :: s13 :: s14 :: s15 :: s16 :: s17 :: s18 :: s19 :: s20 :: .no :: e) 21 o = some (s0 :: s1 :: s2 :: s3 :: s4 :: s5 :: s6 :: s7 :: s8 :: s9 :: s10 :: s11 :: s12 :: s13 :: s14 :: s15 :: s16 :: s17 :: s18 :: s19 :: s20 :: .v o :: e) := Eq.trans rfl rfl
@[simp] theorem w21e {s0 s1 s2 s3 s4 s5 s6 s7 s8 s9 s10 s11 s12 s13 s14 s15 s16 s17 s18 s19 s20 : Sl} {o x : O} : setS (s0 :: s1 :: s2 :: s3 :: s4 :: s5 :: s6 :: s7 :: s8 :: s9 :: s10 :: s11 :: s12 :: s13 :: s14 :: s15 :: s16 :: s17 :: s18 :: s19 :: s20 :: .v x :: e) 21 o = some (s0 :: s1 :: s2 :: s3 :: s4 :: s5 :: s6 :: s7 :: s8 :: s9 :: s10 :: s11 :: s12 :: s13 :: s14 :: s15 :: s16 :: s17 :: s18 :: s19 :: s20 :: .v o :: e) := Eq.trans rfl rfl
@[simp] theorem w21i {s0 s1 s2 s3 s4 s5 s6 s7 s8 s9 s10 s11 s12 s13 s14 s15 s16 s17 s18 s19 s20 : Sl} {s : Sl} {o : O} (h : s.pinned = false) : setS (s0 :: s1 :: s2 :: s3 :: s4 :: s5 :: s6 :: s7 :: s8 :: s9 :: s10 :: s11 :: s12 :: s13 :: s14 :: s15 :: s16 :: s17 :: s18 :: s19 :: s20 :: s :: e) 21 o = some (s0 :: s1 :: s2 :: s3 :: s4 :: s5 :: s6 :: s7 :: s8 :: s9 :: s10 :: s11 :: s12 :: s13 :: s14 :: s15 :: s16 :: s17 :: s18 :: s19 :: s20 :: .v o :: e) := by simp [setS, h]
@[simp] theorem w21f {s0 s1 s2 s3 s4 s5 s6 s7 s8 s9 s10 s11 s12 s13 s14 s15 s16 s17 s18 s19 s20 : Sl} {o : O} : dMove 21 (s0 :: s1 :: s2 :: s3 :: s4 :: s5 :: s6 :: s7 :: s8 :: s9 :: s10 :: s11 :: s12 :: s13 :: s14 :: s15 :: s16 :: s17 :: s18 :: s19 :: s20 :: .v o :: e) = .ok o (s0 :: s1 :: s2 :: s3 :: s4 :: s5 :: s6 :: s7 :: s8 :: s9 :: s10 :: s11 :: s12 :: s13 :: s14 :: s15 :: s16 :: s17 :: s18 :: s19 :: s20 :: .no :: e) := Eq.trans rfl rfl
@[simp] theorem w21g {s0 s1 s2 s3 s4 s5 s6 s7 s8 s9 s10 s11 s12 s13 s14 s15 s16 s17 s18 s19 s20 : Sl} {s : Sl} {o q : O} {as : List Ag} {qs : List (Option O)} (h : s.cont = none) : wb (s0 :: s1 :: s2 :: s3 :: s4 :: s5 :: s6 :: s7 :: s8 :: s9 :: s10 :: s11 :: s12 :: s13 :: s14 :: s15 :: s16 :: s17 :: s18 :: s19 :: s20 :: s :: e) ((o, some 21) :: as) (some q :: qs) = wb (s0 :: s1 :: s2 :: s3 :: s4 :: s5 :: s6 :: s7 :: s8 :: s9 :: s10 :: s11 :: s12 :: s13 :: s14 :: s15 :: s16 :: s17 :: s18 :: s19 :: s20 :: s.put q :: e) as qs := by simp [wb, h, putS, modS]
@[simp] theorem w21h {s0 s1 s2 s3 s4 s5 s6 s7 s8 s9 s10 s11 s12 s13 s14 s15 s16 s17 s18 s19 s20 : Sl} {s : Sl} {t : Sl} : List.set (s0 :: s1 :: s2 :: s3 :: s4 :: s5 :: s6 :: s7 :: s8 :: s9 :: s10 :: s11 :: s12 :: s13 :: s14 :: s15 :: s16 :: s17 :: s18 :: s19 :: s20 :: s :: e) 21 t = s0 :: s1 :: s2 :: s3 :: s4 :: s5 :: s6 :: s7 :: s8 :: s9 :: s10 :: s11 :: s12 :: s13 :: s14 :: s15 :: s16 :: s17 :: s18 :: s19 :: s20 :: t :: e := Eq.trans rfl rfl
@[simp] theorem w22a {s0 s1 s2 s3 s4 s5 s6 s7 s8 s9 s10 s11 s12 s13 s14 s15 s16 s17 s18 s19 s20 s21 : Sl} {s : Sl} : slot (s0 :: s1 :: s2 :: s3 :: s4 :: s5 :: s6 :: s7 :: s8 :: s9 :: s10 :: s11 :: s12 :: s13 :: s14 :: s15 :: s16 :: s17 :: s18 :: s19 :: s20 :: s21 :: s :: e) 22 = s.cont := Eq.trans rfl rfl
@[simp] theorem w22b {s0 s1 s2 s3 s4 s5 s6 s7 s8 s9 s10 s11 s12 s13 s14 s15 s16 s17 s18 s19 s20 s21 : Sl} {s : Sl} {o : O} : putS (s0 :: s1 :: s2 :: s3 :: s4 :: s5 :: s6 :: s7 :: s8 :: s9 :: s10 :: s11 :: s12 :: s13 :: s14 :: s15 :: s16 :: s17 :: s18 :: s19 :: s20 :: s21 :: s :: e) 22 o = s0 :: s1 :: s2 :: s3 :: s4 :: s5 :: s6 :: s7 :: s8 :: s9 :: s10 :: s11 :: s12 :: s13 :: s14 :: s15 :: s16 :: s17 :: s18 :: s19 :: s20 :: s21 :: s.put o :: e := Eq.trans rfl rfl
@[simp] theorem w22c {s0 s1 s2 s3 s4 s5 s6 s7 s8 s9 s10 s11 s12 s13 s14 s15 s16 s17 s18 s19 s20 s21 : Sl} {s : Sl} : lentS (s0 :: s1 :: s2 :: s3 :: s4 :: s5 :: s6 :: s7 :: s8 :: s9 :: s10 :: s11 :: s12 :: s13 :: s14 :: s15 :: s16 :: s17 :: s18 :: s19 :: s20 :: s21 :: s :: e) 22 = s0 :: s1 :: s2 :: s3 :: s4 :: s5 :: s6 :: s7 :: s8 :: s9 :: s10 :: s11 :: s12 :: s13 :: s14 :: s15 :: s16 :: s17 :: s18 :: s19 :: s20 :: s21 :: s.lent :: e := Eq.trans rfl rfl
@[simp] theorem w22d {s0 s1 s2 s3 s4 s5 s6 s7 s8 s9 s10 s11 s12 s13 s14 s15 s16 s17 s18 s19 s20 s21 : Sl} {o : O} : setS (s0 :: s1 :: s2 :: s3 :: s4 :: s5 :: s6 :: s7 :: s8 :: s9 :: s10 :: s11 :: s12 :: s13 :: s14 :: s15 :: s16 :: s17 :: s18 :: s19 :: s20 :: s21 :: .no :: e) 22 o = some (s0 :: s1 :: s2 :: s3 :: s4 :: s5 :: s6 :: s7 :: s8 :: s9 :: s10 :: s11 :: s12 :: s13 :: s14 :: s15 :: s16 :: s17 :: s18 :: s19 :: s20 :: s21 :: .v o :: e) := Eq.trans rfl rfl
@[simp] theorem w22e {s0 s1 s2 s3 s4 s5 s6 s7 s8 s9 s10 s11 s12 s13 s14 s15 s16 s17 s18 s19 s20 s21 : Sl} {o x : O} : setS (s0 :: s1 :: s2 :: s3 :: s4 :: s5 :: s6 :: s7 :: s8 :: s9 :: s10 :: s11 :: s12 :: s13 :: s14 :: s15 :: s16 :: s17 :: s18 :: s19 :: s20 :: s21 :: .v x :: e) 22 o = some (s0 :: s1 :: s2 :: s3 :: s4 :: s5 :: s6 :: s7 :: s8 :: s9 :: s10 :: s11 :: s12 :: s13 :: s14 :: s15 :: s16 :: s17 :: s18 :: s19 :: s20 :: s21 :: .v o :: e) := Eq.trans rfl rfl
@[simp] theorem w22i {s0 s1 s2 s3 s4 s5 s6 s7 s8 s9 s10 s11 s12 s13 s14 s15 s16 s17 s18 s19 s20 s21 : Sl} {s : Sl} {o : O} (h : s.pinned = false) : setS (s0 :: s1 :: s2 :: s3 :: s4 :: s5 :: s6 :: s7 :: s8 :: s9 :: s10 :: s11 :: s12 :: s13 :: s14 :: s15 :: s16 :: s17 :: s18 :: s19 :: s20 :: s21 :: s :: e) 22 o = some (s0 :: s1 :: s2 :: s3 :: s4 :: s5 :: s6 :: s7 :: s8 :: s9 :: s10 :: s11 :: s12 :: s13 :: s14 :: s15 :: s16 :: s17 :: s18 :: s19 :: s20 :: s21 :: .v o :: e) := by simp [setS, h]
@[simp] theorem w22f {s0 s1 s2 s3 s4 s5 s6 s7 s8 s9 s10 s11 s12 s13 s14 s15 s16 s17 s18 s19 s20 s21 : Sl} {o : O} : dMove 22 (s0 :: s1 :: s2 :: s3 :: s4 :: s5 :: s6 :: s7 :: s8 :: s9 :: s10 :: s11 :: s12 :: s13 :: s14 :: s15 :: s16 :: s17 :: s18 :: s19 :: s20 :: s21 :: .v o :: e) = .ok o (s0 :: s1 :: s2 :: s3 :: s4 :: s5 :: s6 :: s7 :: s8 :: s9 :: s10 :: s11 :: s12 :: s13 :: s14 :: s15 :: s16 :: s17 :: s18 :: s19 :: s20 :: s21 :: .no :: e) := Eq.trans rfl rfl
@[simp] theorem w22g {s0 s1 s2 s3 s4 s5 s6 s7 s8 s9 s10 s11 s12 s13 s14 s15 s16 s17 s18 s19 s20 s21 : Sl} {s : Sl} {o q : O} {as : List Ag} {qs : List (Option O)} (h : s.cont = none) : wb (s0 :: s1 :: s2 :: s3 :: s4 :: s5 :: s6 :: s7 :: s8 :: s9 :: s10 :: s11 :: s12 :: s13 :: s14 :: s15 :: s16 :: s17 :: s18 :: s19 :: s20 :: s21 :: s :: e) ((o, some 22) :: as) (some q :: qs) = wb (s0 :: s1 :: s2 :: s3 :: s4 :: s5 :: s6 :: s7 :: s8 :: s9 :: s10 :: s11 :: s12 :: s13 :: s14 :: s15 :: s16 :: s17 :: s18 :: s19 :: s20 :: s21 :: s.put q :: e) as qs := by simp [wb, h, putS, modS]
@[simp] theorem w22h {s0 s1 s2 s3 s4 s5 s6 s7 s8 s9 s10 s11 s12 s13 s14 s15 s16 s17 s18 s19 s20 s21 : Sl} {s : Sl} {t : Sl} : List.set (s0 :: s1 :: s2 :: s3 :: s4 :: s5 :: s6 :: s7 :: s8 :: s9 :: s10 :: s11 :: s12 :: s13 :: s14 :: s15 :: s16 :: s17 :: s18 :: s19 :: s20 :: s21 :: s :: e) 22 t = s0 :: s1 :: s2 :: s3 :: s4 :: s5 :: s6 :: s7 :: s8 :: s9 :: s10 :: s11 :: s12 :: s13 :: s14 :: s15 :: s16 :: s17 :: s18 :: s19 :: s20 :: s21 :: t :: e := Eq.trans rfl rfl
@[simp] theorem w23a {s0 s1 s2 s3 s4 s5 s6 s7 s8 s9 s10 s11 s12 s13 s14 s15 s16 s17 s18 s19 s20 s21 s22 : Sl} {s : Sl} : slot (s0 :: s1 :: s2 :: s3 :: s4 :: s5 :: s6 :: s7 :: s8 :: s9 :: s10 :: s11 :: s12 :: s13 :: s14 :: s15 :: s16 :: s17 :: s18 :: s19 :: s20 :: s21 :: s22 :: s :: e) 23 = s.cont := Eq.trans rfl rfl
@[simp] theorem w23b {s0 s1 s2 s3 s4 s5 s6 s7 s8 s9 s10 s11 s12 s13 s14 s15 s16 s17 s18 s19 s20 s21 s22 : Sl} {s : Sl} {o : O} : putS (s0 :: s1 :: s2 :: s3 :: s4 :: s5 :: s6 :: s7 :: s8 :: s9 :: s10 :: s11 :: s12 :: s13 :: s14 :: s15 :: s16 :: s17 :: s18 :: s19 :: s20 :: s21 :: s22 :: s :: e) 23 o = s0 :: s1 :: s2 :: s3 :: s4 :: s5 :: s6 :: s7 :: s8 :: s9 :: s10 :: s11 :: s12 :: s13 :: s14 :: s15 :: s16 :: s17 :: s18 :: s19 :: s20 :: s21 :: s22 :: s.put o :: e := Eq.trans rfl rfl
@[simp] theorem w23c {s0 s1 s2 s3 s4 s5 s6 s7 s8 s9 s10 s11 s12 s13 s14 s15 s16 s17 s18 s19 s20 s21 s22 : Sl} {s : Sl} : lentS (s0 :: s1 :: s2 :: s3 :: s4 :: s5 :: s6 :: s7 :: s8 :: s9 :: s10 :: s11 :: s12 :: s13 :: s14 :: s15 :: s16 :: s17 :: s18 :: s19 :: s20 :: s21 :: s22 :: s :: e) 23 = s0 :: s1 :: s2 :: s3 :: s4 :: s5 :: s6 :: s7 :: s8 :: s9 :: s10 :: s11 :: s12 :: s13 :: s14 :: s15 :: s16 :: s17 :: s18 :: s19 :: s20 :: s21 :: s22 :: s.lent :: e := Eq.trans rfl rfl
@[simp] theorem w23d {s0 s1 s2 s3 s4 s5 s6 s7 s8 s9 s10 s11 s12 s13 s14 s15 s16 s17 s18 s19 s20 s21 s22 : Sl} {o : O} : setS (s0 :: s1 :: s2 :: s3 :: s4 :: s5 :: s6 :: s7 :: s8 :: s9 :: s10 :: s11 :: s12 :: s13 :: s14 :: s15 :: s16 :: s17 :: s18 :: s19 :: s20 :: s21 :: s22 :: .no :: e) 23 o = some (s0 :: s1 :: s2 :: s3 :: s4 :: s5 :: s6 :: s7 :: s8 :: s9 :: s10 :: s11 :: s12 :: s13 :: s14 :: s15 :: s16 :: s17 :: s18 :: s19 :: s20 :: s21 :: s22 :: .v o :: e) := Eq.trans rfl rfl
@[simp] theorem w23e {s0 s1 s2 s3 s4 s5 s6 s7 s8 s9 s10 s11 s12 s13 s14 s15 s16 s17 s18 s19 s20 s21 s22 : Sl} {o x : O} : setS (s0 :: s1 :: s2 :: s3 :: s4 :: s5 :: s6 :: s7 :: s8 :: s9 :: s10 :: s11 :: s12 :: s13 :: s14 :: s15 :: s16 :: s17 :: s18 :: s19 :: s20 :: s21 :: s22 :: .v x :: e) 23 o = some (s0 :: s1 :: s2 :: s3 :: s4 :: s5 :: s6 :: s7 :: s8 :: s9 :: s10 :: s11 :: s12 :: s13 :: s14 :: s15 :: s16 :: s17 :: s18 :: s19 :: s20 :: s21 :: s22 :: .v o :: e) := Eq.trans rfl rfl
@[simp] theorem w23i {s0 s1 s2 s3 s4 s5 s6 s7 s8 s9 s10 s11 s12 s13 s14 s15 s16 s17 s18 s19 s20 s21 s22 : Sl} {s : Sl} {o : O} (h : s.pinned = false) : setS (s0 :: s1 :: s2 :: s3 :: s4 :: s5 :: s6 :: s7 :: s8 :: s9 :: s10 :: s11 :: s12 :: s13 :: s14 :: s15 :: s16 :: s17 :: s18 :: s19 :: s20 :: s21 :: s22 :: s :: e) 23 o = some (s0 :: s1 :: s2 :: s3 :: s4 :: s5 :: s6 :: s7 :: s8 :: s9 :: s10 :: s11 :: s12 :: s13 :: s14 :: s15 :: s16 :: s17 :: s18 :: s19 :: s20 :: s21 :: s22 :: .v o :: e) := by simp [setS, h]
@[simp] theorem w23f {s0 s1 s2 s3 s4 s5 s6 s7 s8 s9 s10 s11 s12 s13 s14 s15 s16 s17 s18 s19 s20 s21 s22 : Sl} {o : O} : dMove 23 (s0 :: s1 :: s2 :: s3 :: s4 :: s5 :: s6 :: s7 :: s8 :: s9 :: s10 :: s11 :: s12 :: s13 :: s14 :: s15 :: s16 :: s17 :: s18 :: s19 :: s20 :: s21 :: s22 :: .v o :: e) = .ok o (s0 :: s1 :: s2 :: s3 :: s4 :: s5 :: s6 :: s7 :: s8 :: s9 :: s10 :: s11 :: s12 :: s13 :: s14 :: s15 :: s16 :: s17 :: s18 :: s19 :: s20 :: s21 :: s22 :: .no :: e) := Eq.trans rfl rfl
@[simp] theorem w23g {s0 s1 s2 s3 s4 s5 s6 s7 s8 s9 s10 s11 s12 s13 s14 s15 s16 s17 s18 s19 s20 s21 s22 : Sl} {s : Sl} {o q : O} {as : List Ag} {qs : List (Option O)} (h : s.cont = none) : wb (s0 :: s1 :: s2 :: s3 :: s4 :: s5 :: s6 :: s7 :: s8 :: s9 :: s10 :: s11 :: s12 :: s13 :: s14 :: s15 :: s16 :: s17 :: s18 :: s19 :: s20 :: s21 :: s22 :: s :: e) ((o, some 23) :: as) (some q :: qs) = wb (s0 :: s1 :: s2 :: s3 :: s4 :: s5 :: s6 :: s7 :: s8 :: s9 :: s10 :: s11 :: s12 :: s13 :: s14 :: s15 :: s16 :: s17 :: s18 :: s19 :: s20 :: s21 :: s22 :: s.put q :: e) as qs := by simp [wb, h, putS, modS]
@[simp] theorem w23h {s0 s1 s2 s3 s4 s5 s6 s7 s8 s9 s10 s11 s12 s13 s14 s15 s16 s17 s18 s19 s20 s21 s22 : Sl} {s : Sl} {t : Sl} : List.set (s0 :: s1 :: s2 :: s3 :: s4 :: s5 :: s6 :: s7 :: s8 :: s9 :: s10 :: s11 :: s12 :: s13 :: s14 :: s15 :: s16 :: s17 :: s18 :: s19 :: s20 :: s21 :: s22 :: s :: e) 23 t = s0 :: s1 :: s2 :: s3 :: s4 :: s5 :: s6 :: s7 :: s8 :: s9 :: s10 :: s11 :: s12 :: s13 :: s14 :: s15 :: s16 :: s17 :: s18 :: s19 :: s20 :: s21 :: s22 :: t :: e := Eq.trans rfl rfl
@[simp] theorem w24a {s0 s1 s2 s3 s4 s5 s6 s7 s8 s9 s10 s11 s12 s13 s14 s15 s16 s17 s18 s19 s20 s21 s22 s23 : Sl} {s : Sl} : slot (s0 :: s1 :: s2 :: s3 :: s4 :: s5 :: s6 :: s7 :: s8 :: s9 :: s10 :: s11 :: s12 :: s13 :: s14 :: s15 :: s16 :: s17 :: s18 :: s19 :: s20 :: s21 :: s22 :: s23 :: s :: e) 24 = s.cont := Eq.trans rfl rfl
@[simp] theorem w24b {s0 s1 s2 s3 s4 s5 s6 s7 s8 s9 s10 s11 s12 s13 s14 s15 s16 s17 s18 s19 s20 s21 s22 s23 : Sl} {s : Sl} {o : O} : putS (s0 :: s1 :: s2 :: s3 :: s4 :: s5 :: s6 :: s7 :: s8 :: s9 :: s10 :: s11 :: s12 :: s13 :: s14 :: s15 :: s16 :: s17 :: s18 :: s19 :: s20 :: s21 :: s22 :: s23 :: s :: e) 24 o = s0 :: s1 :: s2 :: s3 :: s4 :: s5 :: s6 :: s7 :: s8 :: s9 :: s10 :: s11 :: s12 :: s13 :: s14 :: s15 :: s16 :: s17 :: s18 :: s19 :: s20 :: s21 :: s22 :: s23 :: s.put o :: e := Eq.trans rfl rfl
@[simp] theorem w24c {s0 s1 s2 s3 s4 s5 s6 s7 s8 s9 s10 s11 s12 s13 s14 s15 s16 s17 s18 s19 s20 s21 s22 s23 : Sl} {s : Sl} : lentS (s0 :: s1 :: s2 :: s3 :: s4 :: s5 :: s6 :: s7 :: s8 :: s9 :: s10 :: s11 :: s12 :: s13 :: s14 :: s15 :: s16 :: s17 :: s18 :: s19 :: s20 :: s21 :: s22 :: s23 :: s :: e) 24 = s0 :: s1 :: s2 :: s3 :: s4 :: s5 :: s6 :: s7 :: s8 :: s9 :: s10 :: s11 :: s12 :: s13 :: s14 :: s15 :: s16 :: s17 :: s18 :: s19 :: s20 :: s21 :: s22 :: s23 :: s.lent :: e := Eq.trans rfl rfl
@[simp] theorem w24d {s0 s1 s2 s3 s4 s5 s6 s7 s8 s9 s10 s11 s12 s13 s14 s15 s16 s17 s18 s19 s20 s21 s22 s23 : Sl} {o : O} : setS (s0 :: s1 :: s2 :: s3 :: s4 :: s5 :: s6 :: s7 :: s8 :: s9 :: s10 :: s11 :: s12 :: s13 :: s14 :: s15 :: s16 :: s17 :: s18 :: s19 :: s20 :: s21 :: s22 :: s23 :: .no :: e) 24 o = some (s0 :: s1 :: s2 :: s3 :: s4 :: s5 :: s6 :: s7 :: s8 :: s9 :: s10 :: s11 :: s12 :: s13 :: s14 :: s15 :: s16 :: s17 :: s18 :: s19 :: s20 :: s21 :: s22 :: s23 :: .v o :: e) := Eq.trans rfl rfl
@[simp] theorem w24e {s0 s1 s2 s3 s4 s5 s6 s7 s8 s9 s10 s11 s12 s13 s14 s15 s16 s17 s18 s19 s20 s21 s22 s23 : Sl} {o x : O} : setS (s0 :: s1 :: s2 :: s3 :: s4 :: s5 :: s6 :: s7 :: s8 :: s9 :: s10 :: s11 :: s12 :: s13 :: s14 :: s15 :: s16 :: s17 :: s18 :: s19 :: s20 :: s21 :: s22 :: s23 :: .v x :: e) 24 o = some (s0 :: s1 :: s2 :: s3 :: s4 :: s5 :: s6 :: s7 :: s8 :: s9 :: s10 :: s11 :: s12 :: s13 :: s14 :: s15 :: s16 :: s17 :: s18 :: s19 :: s20 :: s21 :: s22 :: s23 :: .v o :: e) := Eq.trans rfl rfl
@[simp] theorem w24i {s0 s1 s2 s3 s4 s5 s6 s7 s8 s9 s10 s11 s12 s13 s14 s15 s16 s17 s18 s19 s20 s21 s22 s23 : Sl} {s : Sl} {o : O} (h : s.pinned = false) : setS (s0 :: s1 :: s2 :: s3 :: s4 :: s5 :: s6 :: s7 :: s8 :: s9 :: s10 :: s11 :: s12 :: s13 :: s14 :: s15 :: s16 :: s17 :: s18 :: s19 :: s20 :: s21 :: s22 :: s23 :: s :: e) 24 o = some (s0 :: s1 :: s2 :: s3 :: s4 :: s5 :: s6 :: s7 :: s8 :: s9 :: s10 :: s11 :: s12 :: s13 :: s14 :: s15 :: s16 :: s17 :: s18 :: s19 :: s20 :: s21 :: s22 :: s23 :: .v o :: e) := by simp [setS, h]
@[simp] theorem w24f {s0 s1 s2 s3 s4 s5 s6 s7 s8 s9 s10 s11 s12 s13 s14 s15 s16 s17 s18 s19 s20 s21 s22 s23 : Sl} {o : O} : dMove 24 (s0 :: s1 :: s2 :: s3 :: s4 :: s5 :: s6 :: s7 :: s8 :: s9 :: s10 :: s11 :: s12 :: s13 :: s14 :: s15 :: s16 :: s17 :: s18 :: s19 :: s20 :: s21 :: s22 :: s23 :: .v o :: e) = .ok o (s0 :: s1 :: s2 :: s3 :: s4 :: s5 :: s6 :: s7 :: s8 :: s9 :: s10 :: s11 :: s12 :: s13 :: s14 :: s15 :: s16 :: s17 :: s18 :: s19 :: s20 :: s21 :: s22 :: s23 :: .no :: e) := Eq.trans rfl rfl
@[simp] theorem w24g {s0 s1 s2 s3 s4 s5 s6 s7 s8 s9 s10 s11 s12 s13 s14 s15 s16 s17 s18 s19 s20 s21 s22 s23 : Sl} {s : Sl} {o q : O} {as : List Ag} {qs : List (Option O)} (h : s.cont = none) : wb (s0 :: s1 :: s2 :: s3 :: s4 :: s5 :: s6 :: s7 :: s8 :: s9 :: s10 :: s11 :: s12 :: s13 :: s14 :: s15 :: s16 :: s17 :: s18 :: s19 :: s20 :: s21 :: s22 :: s23 :: s :: e) ((o, some 24) :: as) (some q :: qs) = wb (s0 :: s1 :: s2 :: s3 :: s4 :: s5 :: s6 :: s7 :: s8 :: s9 :: s10 :: s11 :: s12 :: s13 :: s14 :: s15 :: s16 :: s17 :: s18 :: s19 :: s20 :: s21 :: s22 :: s23 :: s.put q :: e) as qs := by simp [wb, h, putS, modS]
@[simp] theorem w24h {s0 s1 s2 s3 s4 s5 s6 s7 s8 s9 s10 s11 s12 s13 s14 s15 s16 s17 s18 s19 s20 s21 s22 s23 : Sl} {s : Sl} {t : Sl} : List.set (s0 :: s1 :: s2 :: s3 :: s4 :: s5 :: s6 :: s7 :: s8 :: s9 :: s10 :: s11 :: s12 :: s13 :: s14 :: s15 :: s16 :: s17 :: s18 :: s19 :: s20 :: s21 :: s22 :: s23 :: s :: e) 24 t = s0 :: s1 :: s2 :: s3 :: s4 :: s5 :: s6 :: s7 :: s8 :: s9 :: s10 :: s11 :: s12 :: s13 :: s14 :: s15 :: s16 :: s17 :: s18 :: s19 :: s20 :: s21 :: s22 :: s23 :: t :: e := Eq.trans rfl rfl
@[simp] theorem w25a {s0 s1 s2 s3 s4 s5 s6 s7 s8 s9 s10 s11 s12 s13 s14 s15 s16 s17 s18 s19 s20 s21 s22 s23 s24 : Sl} {s : Sl} : slot (s0 :: s1 :: s2 :: s3 :: s4 :: s5 :: s6 :: s7 :: s8 :: s9 :: s10 :: s11 :: s12 :: s13 :: s14 :: s15 :: s16 :: s17 :: s18 :: s19 :: s20 :: s21 :: s22 :: s23 :: s24 :: s :: e) 25 = s.cont := Eq.trans rfl rfl
@[simp] theorem w25b {s0 s1 s2 s3 s4 s5 s6 s7 s8 s9 s10 s11 s12 s13 s14 s15 s16 s17 s18 s19 s20 s21 s22 s23 s24 : Sl} {s : Sl} {o : O} : putS (s0 :: s1 :: s2 :: s3 :: s4 :: s5 :: s6 :: s7 :: s8 :: s9 :: s10 :: s11 :: s12 :: s13 :: s14 :: s15 :: s16 :: s17 :: s18 :: s19 :: s20 :: s21 :: s22 :: s23 :: s24 :: s :: e) 25 o = s0 :: s1 :: s2 :: s3 :: s4 :: s5 :: s6 :: s7 :: s8 :: s9 :: s10 :: s11 :: s12 :: s13 :: s14 :: s15 :: s16 :: s17 :: s18 :: s19 :: s20 :: s21 :: s22 :: s23 :: s24 :: s.put o :: e := Eq.trans rfl rfl
@[simp] theorem w25c {s0 s1 s2 s3 s4 s5 s6 s7 s8 s9 s10 s11 s12 s13 s14 s15 s16 s17 s18 s19 s20 s21 s22 s23 s24 : Sl} {s : Sl} : lentS (s0 :: s1 :: s2 :: s3 :: s4 :: s5 :: s6 :: s7 :: s8 :: s9 :: s10 :: s11 :: s12 :: s13 :: s14 :: s15 :: s16 :: s17 :: s18 :: s19 :: s20 :: s21 :: s22 :: s23 :: s24 :: s :: e) 25 = s0 :: s1 :: s2 :: s3 :: s4 :: s5 :: s6 :: s7 :: s8 :: s9 :: s10 :: s11 :: s12 :: s13 :: s14 :: s15 :: s16 :: s17 :: s18 :: s19 :: s20 :: s21 :: s22 :: s23 :: s24 :: s.lent :: e := Eq.trans rfl rfl
@[simp] theorem w25d {s0 s1 s2 s3 s4 s5 s6 s7 s8 s9 s10 s11 s12 s13 s14 s15 s16 s17 s18 s19 s20 s21 s22 s23 s24 : Sl} {o : O} : setS (s0 :: s1 :: s2 :: s3 :: s4 :: s5 :: s6 :: s7 :: s8 :: s9 :: s10 :: s11 :: s12 :: s13 :: s14 :: s15 :: s16 :: s17 :: s18 :: s19 :: s20 :: s21 :: s22 :: s23 :: s24 :: .no :: e) 25 o = some (s0 :: s1 :: s2 :: s3 :: s4 :: s5 :: s6 :: s7 :: s8 :: s9 :: s10 :: s11 :: s12 :: s13 :: s14 :: s15 :: s16 :: s17 :: s18 :: s19 :: s20 :: s21 :: s22 :: s23 :: s24 :: .v o :: e) := Eq.trans rfl rfl
@[simp] theorem w25e {s0 s1 s2 s3 s4 s5 s6 s7 s8 s9 s10 s11 s12 s13 s14 s15 s16 s17 s18 s19 s20 s21 s22 s23 s24 : Sl} {o x : O} : setS (s0 :: s1 :: s2 :: s3 :: s4 :: s5 :: s6 :: s7 :: s8 :: s9 :: s10 :: s11 :: s12 :: s13 :: s14 :: s15 :: s16 :: s17 :: s18 :: s19 :: s20 :: s21 :: s22 :: s23 :: s24 :: .v x :: e) 25 o = some (s0 :: s1 :: s2 :: s3 :: s4 :: s5 :: s6 :: s7 :: s8 :: s9 :: s10 :: s11 :: s12 :: s13 :: s14 :: s15 :: s16 :: s17 :: s18 :: s19 :: s20 :: s21 :: s22 :: s23 :: s24 :: .v o :: e) := Eq.trans rfl rfl
@[simp] theorem w25i {s0 s1 s2 s3 s4 s5 s6 s7 s8 s9 s10 s11 s12 s13 s14 s15 s16 s17 s18 s19 s20 s21 s22 s23 s24 : Sl} {s : Sl} {o : O} (h : s.pinned = false) : setS (s0 :: s1 :: s2 :: s3 :: s4 :: s5 :: s6 :: s7 :: s8 :: s9 :: s10 :: s11 :: s12 :: s13 :: s14 :: s15 :: s16 :: s17 :: s18 :: s19 :: s20 :: s21 :: s22 :: s23 :: s24 :: s :: e) 25 o = some (s0 :: s1 :: s2 :: s3 :: s4 :: s5 :: s6 :: s7 :: s8 :: s9 :: s10 :: s11 :: s12 :: s13 :: s14 :: s15 :: s16 :: s17 :: s18 :: s19 :: s20 :: s21 :: s22 :: s23 :: s24 :: .v o :: e) := by simp [setS, h]
@[simp] theorem w25f {s0 s1 s2 s3 s4 s5 s6 s7 s8 s9 s10 s11 s12 s13 s14 s15 s16 s17 s18 s19 s20 s21 s22 s23 s24 : Sl} {o : O} : dMove 25 (s0 :: s1 :: s2 :: s3 :: s4 :: s5 :: s6 :: s7 :: s8 :: s9 :: s10 :: s11 :: s12 :: s13 :: s14 :: s15 :: s16 :: s17 :: s18 :: s19 :: s20 :: s21 :: s22 :: s23 :: s24 :: .v o :: e) = .ok o (s0 :: s1 :: s2 :: s3 :: s4 :: s5 :: s6 :: s7 :: s8 :: s9 :: s10 :: s11 :: s12 :: s13 :: s14 :: s15 :: s16 :: s17 :: s18 :: s19 :: s20 :: s21 :: s22 :: s23 :: s24 :: .no :: e) := Eq.trans rfl rfl
@[simp] theorem w25g {s0 s1 s2 s3 s4 s5 s6 s7 s8 s9 s10 s11 s12 s13 s14 s15 s16 s17 s18 s19 s20 s21 s22 s23 s24 : Sl} {s : Sl} {o q : O} {as : List Ag} {qs : List (Option O)} (h : s.cont = none) : wb (s0 :: s1 :: s2 :: s3 :: s4 :: s5 :: s6 :: s7 :: s8 :: s9 :: s10 :: s11 :: s12 :: s13 :: s14 :: s15 :: s16 :: s17 :: s18 :: s19 :: s20 :: s21 :: s22 :: s23 :: s24 :: s :: e) ((o, some 25) :: as) (some q :: qs) = wb (s0 :: s1 :: s2 :: s3 :: s4 :: s5 :: s6 :: s7 :: s8 :: s9 :: s10 :: s11 :: s12 :: s13 :: s14 :: s15 :: s16 :: s17 :: s18 :: s19 :: s20 :: s21 :: s22 :: s23 :: s24 :: s.put q :: e) as qs := by simp [wb, h, putS, modS]
@[simp] theorem w25h {s0 s1 s2 s3 s4 s5 s6 s7 s8 s9 s10 s11 s12 s13 s14 s15 s16 s17 s18 s19 s20 s21 s22 s23 s24 : Sl} {s : Sl} {t : Sl} : List.set (s0 :: s1 :: s2 :: s3 :: s4 :: s5 :: s6 :: s7 :: s8 :: s9 :: s10 :: s11 :: s12 :: s13 :: s14 :: s15 :: s16 :: s17 :: s18 :: s19 :: s20 :: s21 :: s22 :: s23 :: s24 :: s :: e) 25 t = s0 :: s1 :: s2 :: s3 :: s4 :: s5 :: s6 :: s7 :: s8 :: s9 :: s10 :: s11 :: s12 :: s13 :: s14 :: s15 :: s16 :: s17 :: s18 :: s19 :: s20 :: s21 :: s22 :: s23 :: s24 :: t :: e := Eq.trans rfl rfl
@[simp] theorem v11 {o : O} : Sl.pinned (.v o) = false := Eq.trans rfl rfl
@[simp] theorem v12 : Sl.pinned .no = false := Eq.trans rfl rfl
@[simp] theorem u1 {t : Tg} {b : En → Out} : sForL t b [] e = .nx e := Eq.trans rfl rfl
def forK (t : Tg) (b : En → Out) (ds : List D) : Out → Out
  | .nx e2 => sForL t b ds e2
  | .ct e2 => sForL t b ds e2
  | .bk e2 => .nx e2
  | r => r
def forT (t : Tg) (b : En → Out) (ds : List D) : Option En → Out
  | none => .bad
  | some e1 => forK t b ds (b e1)
theorem u2 {t : Tg} {b : En → Out} {d : D} {ds : List D} : sForL t b (d :: ds) e = forT t b ds (t (.d d) e) := by
  show (match t (.d d) e with
    | none => Out.bad
    | some e1 => match b e1 with
      | .nx e2 => sForL t b ds e2
      | .ct e2 => sForL t b ds e2
      | .bk e2 => .nx e2
      | r => r) = _
  unfold forT forK
  cases t (.d d) e with
  | none => rfl
  | some e1 => cases h : b e1 <;> simp [h]
@[simp] theorem u3 {t : Tg} {b : En → Out} {ds : List D} : forT t b ds (some e) = forK t b ds (b e) := Eq.trans rfl rfl
@[simp] theorem u4 {t : Tg} {b : En → Out} {ds : List D} : forK t b ds (.nx e) = sForL t b ds e := Eq.trans rfl rfl
@[simp] theorem u5 {t : Tg} {b : En → Out} {ds : List D} {o : O} : forK t b ds (.rt o e) = .rt o e := Eq.trans rfl rfl
@[simp] theorem u6 {t : Tg} {b : En → Out} {ds : List D} : forK t b ds (.exc c ps e) = .exc c ps e := Eq.trans rfl rfl
@[simp] theorem u7 {t : Tg} {b : En → Out} {ds : List D} : forK t b ds (.bk e) = .nx e := Eq.trans rfl rfl
@[simp] theorem u8 {t : Tg} {b : En → Out} {ds : List D} : forK t b ds (.ct e) = sForL t b ds e := Eq.trans rfl rfl
@[simp] theorem v1 {o : O} : Sl.cont (.v o) = some o := Eq.trans rfl rfl
@[simp] theorem v2 {o : O} : Sl.cont (.p o) = some o := Eq.trans rfl rfl
@[simp] theorem v3 : Sl.cont .no = none := Eq.trans rfl rfl
@[simp] theorem v4 : Sl.cont .pn = none := Eq.trans rfl rfl
@[simp] theorem v5 {o q : O} : Sl.put (.v o) q = .v q := Eq.trans rfl rfl
@[simp] theorem v6 {o q : O} : Sl.put (.p o) q = .p q := Eq.trans rfl rfl
@[simp] theorem v7 {q : O} : Sl.put .no q = .v q := Eq.trans rfl rfl
@[simp] theorem v8 {q : O} : Sl.put .pn q = .p q := Eq.trans rfl rfl
@[simp] theorem v9 {o : O} : Sl.lent (.v o) = .no := Eq.trans rfl rfl
@[simp] theorem v10 {o : O} : Sl.lent (.p o) = .pn := Eq.trans rfl rfl
end
end MX

/-! MXu: from a body's end to its def's. -/
namespace MX
open PySem L2
theorem den_rt {mask : List Bool} {os : List O} {n : Nat} {b : En → Out} {o : O} {e e0 : En} {ps : List (Option O)} (h0 : initE mask os n = e0) (h : b e0 = .rt o e) (hp : outE mask.length e = ps) : denFn mask n b os = .ok o ps := by
  unfold denFn
  rw [h0, h, ← hp]
theorem den_nx {mask : List Bool} {os : List O} {n : Nat} {b : En → Out} {e e0 : En} {ps : List (Option O)} (h0 : initE mask os n = e0) (h : b e0 = .nx e) (hp : outE mask.length e = ps) : denFn mask n b os = .ok (.d .non) ps := by
  unfold denFn
  rw [h0, h, ← hp]
theorem den_ex {mask : List Bool} {os : List O} {n : Nat} {b : En → Out} {c : String} {pl : List (Str × D)} {e e0 : En} {ps : List (Option O)} (h0 : initE mask os n = e0) (h : b e0 = .exc c pl e) (hp : outE mask.length e = ps) : denFn mask n b os = .exc c pl ps := by
  unfold denFn
  rw [h0, h, ← hp]
end MX

namespace K05
open PySem L2 MX
/-! ### draws -/
def mixed (c t : Int) : Int :=
  let one := (c * 48271 + t * 69621 + 12345) % 2147483647
  (one * one + one * 16807 + t * 7919) % 2147483629
theorem v_mix (c t : Int) : d__law_mix [.d (.int c), .d (.int t)] = .ok (.d (.int (mixed c t))) [some (.d (.int c)), some (.d (.int t))] := by
  have h1 : isSm 48271 = true := by decide
  have h2 : isSm 69621 = true := by decide
  have h3 : isSm 16807 = true := by decide
  have h5 : isSm 7919 = true := by decide
  have h4 : ∀ x : Int, isSm (x % 2147483647) = true := fun x => sm_of (by omega) (by omega)
  simp [d__law_mix, denFn, b__law_mix, initE, outE, mixed, y16, y17, h1, h2, h3, h4, h5, List.replicate]
def box (r l a c s : Int) (cells : List D) : List O := [.d (.int r), .d (.int l), .d (.int a), .d (.int c), .d (.int s), .d (.lst cells)]
def Box (o : List O) : Prop := ∃ r l a c s cells, 0 ≤ a ∧ o = box r l a c s ((cells : List Int).map .int)
section
variable {r l a c s : Int} {cells : List D}
@[simp] theorem q0 : fIx (.lst (box r l a c s cells)) (.d (.int 0)) = some (.d (.int r)) := by rfl
@[simp] theorem q1 : fIx (.lst (box r l a c s cells)) (.d (.int 1)) = some (.d (.int l)) := by rfl
@[simp] theorem q2 : fIx (.lst (box r l a c s cells)) (.d (.int 2)) = some (.d (.int a)) := by rfl
@[simp] theorem q3 : fIx (.lst (box r l a c s cells)) (.d (.int 3)) = some (.d (.int c)) := by rfl
@[simp] theorem q4 : fIx (.lst (box r l a c s cells)) (.d (.int 4)) = some (.d (.int s)) := by rfl
@[simp] theorem q5 : fIx (.lst (box r l a c s cells)) (.d (.int 5)) = some (.d (.lst cells)) := by rfl
@[simp] theorem k0 {x : Int} : (O.lst (box r l a c s cells)).store (.d (.int 0)) (.d (.int x)) = some (.lst (box x l a c s cells)) := by rfl
@[simp] theorem k1 {x : Int} : (O.lst (box r l a c s cells)).store (.d (.int 1)) (.d (.int x)) = some (.lst (box r x a c s cells)) := by rfl
@[simp] theorem k2 {x : Int} : (O.lst (box r l a c s cells)).store (.d (.int 2)) (.d (.int x)) = some (.lst (box r l x c s cells)) := by rfl
@[simp] theorem k3 {x : Int} : (O.lst (box r l a c s cells)).store (.d (.int 3)) (.d (.int x)) = some (.lst (box r l a x s cells)) := by rfl
@[simp] theorem k4 {x : Int} : (O.lst (box r l a c s cells)).store (.d (.int 4)) (.d (.int x)) = some (.lst (box r l a c x cells)) := by rfl
end
theorem ix_cell {cells : List Int} {i : Int} (h : 0 ≤ i) (h2 : i < cells.length) : fIx (.d (.lst (cells.map .int))) (.d (.int i)) = some (.d (.int (cells.getD i.toNat 0))) := by
  have h3 : i.toNat < cells.length := by omega
  have e2 : i = ((i.toNat : Nat) : Int) := by omega
  have e4 : (cells.map D.int)[i.toNat]? = some (.int (cells.getD i.toNat 0)) := by
    rw [List.getElem?_map, List.getElem?_eq_getElem h3, List.getD_eq_getElem?_getD, List.getElem?_eq_getElem h3]
    rfl
  have e5 := atI_nat e4
  rw [← e2] at e5
  have e3 : fIxL (.d (.lst (cells.map .int))) (.d (.int i)) = some (.d (.int (cells.getD i.toNat 0))) := by
    show (atI (cells.map D.int) i).map O.d = _
    rw [e5]
    rfl
  show (match fIxL (.d (.lst (cells.map .int))) (.d (.int i)) with
    | some z => some z
    | none => _) = _
  rw [e3]
theorem pow18 : fPow (.d (.int 10)) (.d (.int 18)) = some (.d (.int 1000000000000000000)) := by rfl
theorem draw_spec {o : List O} (m : Int) (hp : Box o) (hm : 0 < m) (hm2 : m < 2 ^ 64) :
    ∃ d o', d__law_draw [.lst o, .d (.int m)] = .ok (.d (.int d)) [some (.lst o'), some (.d (.int m))] ∧ 0 ≤ d ∧ d < m ∧ Box o' := by
  obtain ⟨r, l, a, c, s, cells, ha, rfl⟩ := hp
  have fin1 : ∀ (r1 l1 a1 c1 s1 : Int) (d : Int), 0 ≤ a1 → 0 ≤ d ∧ d < m → ∀ z, z = RF.ok (.d (.int d)) [some (.lst (box r1 l1 a1 c1 s1 (cells.map .int))), some (.d (.int m))] → ∃ d o', z = .ok (.d (.int d)) [some (.lst o'), some (.d (.int m))] ∧ 0 ≤ d ∧ d < m ∧ Box o' :=
    fun r1 l1 a1 c1 s1 d h1 h2 z hz => ⟨d, _, hz, h2.1, h2.2, r1, l1, a1, c1, s1, cells, h1, rfl⟩
  have md : ∀ x : Int, 0 ≤ x % m ∧ x % m < m := fun x => ⟨Int.emod_nonneg _ (by omega), Int.emod_lt_of_pos _ hm⟩
  have s31 : isSm 31 = true := by decide
  by_cases h1 : l = 0
  · by_cases h2 : a < cells.length
    · obtain ⟨x, hix⟩ : ∃ x, fIx (.d (.lst (cells.map .int))) (.d (.int a)) = some (.d (.int x)) := ⟨_, ix_cell ha h2⟩
      by_cases h3 : 1000000000000000000 ≤ x
      · by_cases h4 : 1000000000000000000 < x
        · refine fin1 ((x - 1000000000000000000) / m) (60 - 1) (a + 2) c ((s * 31 + x) % 2147483647) ((x - 1000000000000000000) % m) (by omega) (md _) _ ?_
          simp [d__law_draw, denFn, b__law_draw, initE, outE, List.replicate, h1, h2, h3, h4, hix, pow18, v_mix, hm, y16, y17, y18 hm hm2, s31]
        · refine fin1 (x - 1000000000000000000) 0 (a + 2) (c + 1) ((s * 31 + x) % 2147483647) (mixed ((s * 31 + x) % 2147483647) (c + 1) % m) (by omega) (md _) _ ?_
          simp [d__law_draw, denFn, b__law_draw, initE, outE, List.replicate, h1, h2, h3, h4, hix, pow18, v_mix, hm, y16, y17, y18 hm hm2, s31]
      · refine fin1 r 0 (a + 2) (c + 1) ((s * 31 + x) % 2147483647) (mixed ((s * 31 + x) % 2147483647) (c + 1) % m) (by omega) (md _) _ ?_
        simp [d__law_draw, denFn, b__law_draw, initE, outE, List.replicate, h1, h2, h3, hix, pow18, v_mix, hm, y16, y17, y18 hm hm2, s31]
    · refine fin1 r 0 a (c + 1) s (mixed s (c + 1) % m) ha (md _) _ ?_
      simp [d__law_draw, denFn, b__law_draw, initE, outE, List.replicate, h1, h2, v_mix, hm, y17]
  · by_cases h5 : 0 < l
    · by_cases h4 : 0 < r
      · refine fin1 (r / m) (l - 1) a c s (r % m) ha (md _) _ ?_
        simp [d__law_draw, denFn, b__law_draw, initE, outE, List.replicate, h1, h5, h4, hm, y17, y18 hm hm2]
      · refine fin1 r 0 a (c + 1) s (mixed s (c + 1) % m) ha (md _) _ ?_
        simp [d__law_draw, denFn, b__law_draw, initE, outE, List.replicate, h1, h5, h4, v_mix, hm, y17]
    · refine fin1 r 0 a (c + 1) s (mixed s (c + 1) % m) ha (md _) _ ?_
      simp [d__law_draw, denFn, b__law_draw, initE, outE, List.replicate, h1, h5, v_mix, hm, y17]
end K05

namespace K05
open PySem L2 MX
/-! ### primes -/
def idx (a m : Nat) : List D := (List.range' a m).map fun (i : Nat) => D.int (i : Int)
theorem idx_s {a m : Nat} : idx a (m + 1) = D.int (a : Int) :: idx (a + 1) m := by unfold idx; rw [List.range'_succ]; rfl
theorem idx_0 {a : Nat} : idx a 0 = [] := rfl
theorem gR1_n {m : Nat} (h : m ≤ 1000000) : gR1 [.d (.int (m : Int))] = some (idx 0 m) := by
  have e : inB (m : Int) = true := by unfold inB; simp; omega
  show (if inB (m : Int) = true then some (rangeD 0 (m : Int).toNat) else none) = _
  rw [if_pos e, Int.toNat_natCast]
  unfold rangeD idx
  rw [List.range_eq_range']
  simp
theorem gR2_n {a b : Nat} (h : a ≤ 1000000) (h2 : b ≤ 1000000) : gR2 [.d (.int (a : Int)), .d (.int (b : Int))] = some (idx a (b - a)) := by
  have e : inB (a : Int) = true := by unfold inB; simp; omega
  have e2 : inB (b : Int) = true := by unfold inB; simp; omega
  have e3 : ((b : Int) - (a : Int)).toNat = b - a := by omega
  show (if (inB (a : Int) && inB (b : Int)) = true then some (rangeD (a : Int) ((b : Int) - (a : Int)).toNat) else none) = _
  rw [e, e2, e3, if_pos (show (true && true) = true from rfl)]
  unfold rangeD idx
  rw [List.range'_eq_map_range, List.map_map]
  refine congrArg some (List.map_congr_left fun i _ => ?_)
  show D.int ((a : Int) + (i : Int)) = D.int ((a + i : Nat) : Int)
  rw [Int.natCast_add]
def trR (n : Int) : Nat → Nat → Option Bool
  | _, 0 => none
  | k, f + 1 => if n < (k : Int) * k then some true else if n % (k : Int) = 0 then some false else trR n (k + 1) f
def isPrI (n : Int) : Bool := if n < 2 then false else (trR n 2 38).getD true
abbrev lpB : En → Out := (sSeq (sIf (dTst (dBin fGt (vT (dBin fMul (vS 1) (vS 1))) (vS 0))) (sRet (dC (.bl true))) sNext)
  (sIf (dTst (dBin fEq (vT (dBin fMod (vT (dCall (on1 fInt) (vCons (vS 0) vNil))) (vS 1))) (vT (dC (.int 0))))) (sRet (dC (.bl false))) sNext))
def Out.ofR (r : Option Bool) (e : En) : Out := match r with
  | some b => .rt (.d (.bl b)) e
  | none => .nx e
theorem sm_nat {n : Nat} (h : n ≤ 1000000) : isSm (n : Int) = true := sm_of (by omega) (by omega)
theorem lp_loop (n : Int) : ∀ (f k : Nat) (s1 : Sl), 1 ≤ k → k + f ≤ 1000 → s1.pinned = false → ∃ t, sForL (tName 1) lpB (idx k f) [.p (.d (.int n)), s1] = Out.ofR (trR n k f) [.p (.d (.int n)), t]
  | 0, k, s1, _, _, _ => ⟨s1, by rw [idx_0]; exact u1⟩
  | f + 1, k, s1, hk, hf, h1 => by
    have sk := sm_nat (n := k) (by omega)
    have pk : 0 < (k : Int) := by omega
    rw [idx_s, u2]
    unfold trR
    by_cases c1 : n < (k : Int) * k
    · exact ⟨.v (.d (.int (k : Int))), by simp [h1, y15 sk, c1, Out.ofR]⟩
    · by_cases c2 : n % (k : Int) = 0
      · exact ⟨.v (.d (.int (k : Int))), by simp [h1, y15 sk, y17 pk, c1, c2, Out.ofR]⟩
      · obtain ⟨t, ih⟩ := lp_loop n f (k + 1) (.v (.d (.int (k : Int)))) (by omega) (by omega) rfl
        refine ⟨t, ?_⟩
        rw [if_neg c1, if_neg c2, ← ih]
        simp [h1, y15 sk, y17 pk, c1, c2]
theorem bLip0 (n : Int) (h : n < 2) : b__law_is_prime [.p (.d (.int n)), .no] = .rt (.d (.bl false)) [.p (.d (.int n)), .no] := by
  simp [b__law_is_prime, h]
theorem bLip (n : Int) (B : En → Out) (b : Bool) (e : En) (ix : List D) (h : ¬ n < 2) (hg : gR2 [.d (.int 2), .d (.int 40)] = some ix) (hl : (sForL (tName 1) B ix [.p (.d (.int n)), .no]).andThen (sRet (dC (.bl true))) = .rt (.d (.bl b)) e) :
  (sSeq (sIf (dTst (dBin fLt (vS 0) (vT (dC (.int 2))))) (sRet (dC (.bl false))) sNext) (sSeq (sFor (iOps (vCons (vT (dC (.int 2))) (vCons (vT (dC (.int 40))) vNil)) gR2) (tName 1) B) (sRet (dC (.bl true))))) [.p (.d (.int n)), .no] = .rt (.d (.bl b)) e := by
  simp [h, hg, hl]
theorem v_lip (n : Int) : d__law_is_prime [.d (.int n)] = .ok (.d (.bl (isPrI n))) [some (.d (.int n))] := by
  by_cases h : n < 2
  · have : isPrI n = false := by unfold isPrI; rw [if_pos h]
    rw [this]
    show denFn _ _ _ _ = _
    exact den_rt rfl (bLip0 n h) rfl
  · obtain ⟨t, hl⟩ := lp_loop n 38 2 .no (by omega) (by omega) rfl
    have e : isPrI n = (trR n 2 38).getD true := by unfold isPrI; rw [if_neg h]
    rw [e]
    show denFn _ _ _ _ = _
    refine den_rt (e := [.p (.d (.int n)), t]) rfl (bLip n lpB _ _ (idx 2 38) h (gR2_n (a := 2) (b := 40) (by omega) (by omega)) ?_) rfl
    rw [hl]
    cases trR n 2 38 with
    | none => rfl
    | some b => rfl
/-! the program's -/
abbrev ipC : En → Rs Bool := (dTst (dBin fLe (vT (dBin fMul (vS 1) (vS 1))) (vS 0)))
abbrev ipB : En → Out := (sSeq (sIf (dTst (dBin fEq (vT (dBin fMod (vS 0) (vS 1))) (vT (dC (.int 0))))) (sRet (dC (.bl false))) sNext)
  (sAug 1 fAddI (vT (dC (.int 1)))))
def Out.ofW (b : Bool) (e : En) : Out := if b = true then .nx e else .rt (.d (.bl false)) e
theorem trR_none {n : Int} : ∀ {f k : Nat}, trR n k (f + 1) = none → ((k + f : Nat) : Int) * ((k + f : Nat) : Int) ≤ n
  | 0, k, h => by
    unfold trR at h
    split at h
    · cases h
    · rename_i c; simpa using c
  | f + 1, k, h => by
    unfold trR at h
    split at h
    · cases h
    · split at h
      · cases h
      · have := trR_none (f := f) (k := k + 1) h
        rw [show k + 1 + f = k + (f + 1) by omega] at this
        exact this
theorem ip_loop (n : Int) : ∀ (f k fuel : Nat) (b : Bool), 1 ≤ k → k + f ≤ 1000 → f < fuel → trR n k f = some b → ∃ t, sWhile ipC ipB fuel [.p (.d (.int n)), .v (.d (.int (k : Int)))] = Out.ofW b [.p (.d (.int n)), t]
  | 0, k, fuel, b, _, _, _, h => by cases h
  | f + 1, k, 0, b, _, _, hf, _ => by omega
  | f + 1, k, fuel + 1, b, hk, hf, hu, h => by
    have sk := sm_nat (n := k) (by omega)
    have pk : 0 < (k : Int) := by omega
    unfold trR at h
    by_cases c1 : n < (k : Int) * k
    · rw [if_pos c1] at h
      cases h
      have c1' : ¬ ((k : Int) * k ≤ n) := by omega
      refine ⟨.v (.d (.int (k : Int))), ?_⟩
      unfold sWhile
      simp [y15 sk, c1', Out.ofW]
    · have c1' : ((k : Int) * k ≤ n) := by omega
      rw [if_neg c1] at h
      by_cases c2 : n % (k : Int) = 0
      · rw [if_pos c2] at h
        cases h
        refine ⟨.v (.d (.int (k : Int))), ?_⟩
        unfold sWhile
        simp [y15 sk, y17 pk, c1', c2, Out.ofW]
      · rw [if_neg c2] at h
        obtain ⟨t, ih⟩ := ip_loop n f (k + 1) fuel b (by omega) (by omega) (by omega) h
        refine ⟨t, ?_⟩
        rw [← ih]
        conv => lhs; unfold sWhile
        simp [y15 sk, y17 pk, c1', c2, fAddI, onI]
theorem bIp0 (n : Int) (h : n < 2) : b_is_prime [.p (.d (.int n)), .no] = .rt (.d (.bl false)) [.p (.d (.int n)), .no] := by
  simp [b_is_prime, h]
theorem bIp (n : Int) (c : En → Rs Bool) (B : En → Out) (fu : En → Nat) (b : Bool) (t : Sl) (h : ¬ n < 2) (hl : sWhile c B (fu [.p (.d (.int n)), .v (.d (.int 2))]) [.p (.d (.int n)), .v (.d (.int 2))] = Out.ofW b [.p (.d (.int n)), t]) :
  (sSeq (sIf (dTst (dBin fLt (vS 0) (vT (dC (.int 2))))) (sRet (dC (.bl false))) sNext) (sSeq (sAsg (dC (.int 2)) (tName 1)) (sSeq (sWhileF fu c B) (sRet (dC (.bl true)))))) [.p (.d (.int n)), .no] = .rt (.d (.bl b)) [.p (.d (.int n)), t] := by
  cases b <;> simp [h, sWhileF, hl, Out.ofW]
theorem v_ip (n : Int) (hn : n ≤ 1000) : d_is_prime [.d (.int n)] = .ok (.d (.bl (isPrI n))) [some (.d (.int n))] := by
  by_cases h : n < 2
  · have : isPrI n = false := by unfold isPrI; rw [if_pos h]
    rw [this]
    show denFn _ _ _ _ = _
    exact den_rt rfl (bIp0 n h) rfl
  · have e : isPrI n = (trR n 2 38).getD true := by unfold isPrI; rw [if_neg h]
    cases q : trR n 2 38 with
    | none => have := trR_none (f := 37) (k := 2) q; omega
    | some b =>
      rw [e, q]
      obtain ⟨t, hl⟩ := ip_loop n 38 2 100000 b (by omega) (by omega) (by omega) q
      show denFn _ _ _ _ = _
      exact den_rt rfl (bIp n ipC ipB fu_is_prime b t h hl) rfl
end K05

namespace K05
open PySem L2 MX
/-! ### alike -/
def AlikeK (k : Nat) (d : D) : Prop := d__law_alike k [.d d, .d d] = .ok (.d (.bl true)) [some (.d d), some (.d d)]
theorem i1 {i : Int} {t : String} (h : t = "tuple" ∨ t = "str" ∨ t = "bool" ∨ t = "list") : on2 fIsi [.d (.int i), .d (.ty t)] = some (.d (.bl false)) := by rcases h with h | h | h | h <;> subst h <;> rfl
theorem i2 {i : Int} : on2 fIsi [.d (.int i), .d (.ty "int")] = some (.d (.bl true)) := rfl
theorem i3 {ds : List D} : on2 fIsi [.d (.tup ds), .d (.ty "tuple")] = some (.d (.bl true)) := rfl
theorem i3l {ds : List D} : on2 fIsi [.d (.tup ds), .d (.ty "list")] = some (.d (.bl false)) := rfl
theorem i4 {b : Bool} : on2 fIsi [.d (.bl b), .d (.ty "bool")] = some (.d (.bl true)) := rfl
theorem j1 {i : Int} : fIsiB ["tuple", "list"] (.d (.int i)) = some (.d (.bl false)) := rfl
theorem j2 {b : Bool} : fIsiB ["tuple", "list"] (.d (.bl b)) = some (.d (.bl false)) := rfl
theorem j3 {ds : List D} : fIsiB ["tuple", "list"] (.d (.tup ds)) = some (.d (.bl true)) := rfl
theorem isN {i : Int} : fIsN (.d (.int i)) (.d .non) = some (.d (.bl false)) := rfl
theorem isNb {b : Bool} : fIsN (.d (.bl b)) (.d .non) = some (.d (.bl false)) := rfl
theorem eqb {b : Bool} : fEq (.d (.bl b)) (.d (.bl b)) = some (.d (.bl true)) := by cases b <;> rfl
theorem neb {b : Bool} : fNe (.d (.bl b)) (.d (.bl b)) = some (.d (.bl false)) := by cases b <;> rfl
theorem bI (dR : Den) (i : Int) : b__law_alike dR [.p (.d (.int i)), .p (.d (.int i)), .no] = .rt (.d (.bl true)) [.p (.d (.int i)), .p (.d (.int i)), .no] := by
  simp [b__law_alike, i1, i2, isN, j1]
theorem bB (dR : Den) (i : Bool) : b__law_alike dR [.p (.d (.bl i)), .p (.d (.bl i)), .no] = .rt (.d (.bl true)) [.p (.d (.bl i)), .p (.d (.bl i)), .no] := by
  simp [b__law_alike, i4, isNb, j2, eqb]
theorem al_int (k : Nat) (i : Int) : AlikeK (k + 1) (.int i) := by
  show denFn [true, true] 3 (b__law_alike (d__law_alike k)) _ = _
  exact den_rt rfl (bI _ i) rfl
theorem al_bl (k : Nat) (i : Bool) : AlikeK (k + 1) (.bl i) := by
  show denFn [true, true] 3 (b__law_alike (d__law_alike k)) _ = _
  exact den_rt rfl (bB _ i) rfl
abbrev alB (dR : Den) : En → Out := (sIf (dNotT (dTst (dCallF dR [0, 1] (cCons (gVal (dBin fIx (vS 0) (vS 2))) (cCons (gVal (dBin fIx (vS 1) (vS 2))) cNil))))) (sRet (dC (.bl false))) sNext)
theorem al_step (dR : Den) (t x : O) (a : Int) (s2 : Sl) (ds : List D) (R : Out) (h2 : s2.pinned = false) (e1 : fIx t (.d (.int a)) = some x) (e2 : dR [x, x] = .ok (.d (.bl true)) [some x, some x])
  (h : sForL (tName 2) (alB dR) ds [.p t, .p t, .v (.d (.int a))] = R) : sForL (tName 2) (alB dR) (.int a :: ds) [.p t, .p t, s2] = R := by
  rw [u2]
  simp [h2, e1, e2, h]
theorem ixT_map {α : Type} {f : α → D} {l : List α} {x : α} {k : Nat} (h : l[k]? = some x) : fIx (.d (.tup (l.map f))) (.d (.int (k : Int))) = some (.d (f x)) := by
  have hat : atI (l.map f) (k : Int) = some (f x) := atI_nat (by rw [List.getElem?_map, h]; rfl)
  have e : fIxT (.d (.tup (l.map f))) (.d (.int (k : Int))) = some (.d (f x)) := by
    show (atI (l.map f) (k : Int)).map O.d = _
    rw [hat]; rfl
  show (match fIxT (.d (.tup (l.map f))) (.d (.int (k : Int))) with
    | some z => some z
    | none => _) = _
  rw [e]
theorem al_loop (dR : Den) (xs : List D) (hx : ∀ x ∈ xs, dR [.d x, .d x] = .ok (.d (.bl true)) [some (.d x), some (.d x)]) : ∀ (m a : Nat) (s2 : Sl), a + m = xs.length → s2.pinned = false →
    ∃ t2, sForL (tName 2) (alB dR) (idx a m) [.p (.d (.tup xs)), .p (.d (.tup xs)), s2] = .nx [.p (.d (.tup xs)), .p (.d (.tup xs)), t2]
  | 0, a, s2, _, _ => ⟨s2, by rw [idx_0]; exact u1⟩
  | m + 1, a, s2, h, h2 => by
    obtain ⟨t2, ih⟩ := al_loop dR xs hx m (a + 1) (.v (.d (.int (a : Int)))) (by omega) rfl
    refine ⟨t2, ?_⟩
    rw [idx_s]
    have ha : a < xs.length := by omega
    have e1 : xs[a]? = some xs[a] := List.getElem?_eq_getElem ha
    have i1 := ixT_map (f := id) e1
    rw [List.map_id] at i1
    exact al_step dR _ _ _ _ _ _ h2 i1 (hx _ (List.getElem_mem ha)) ih
theorem bT (dR : Den) (xs ix : List D) (q : Int) (t2 : Sl) (e0 : fLenU [.d (.tup xs)] = some (.d (.int q))) (e1 : gR1 [.d (.int q)] = some ix)
  (h : sForL (tName 2) (alB dR) ix [.p (.d (.tup xs)), .p (.d (.tup xs)), .no] = .nx [.p (.d (.tup xs)), .p (.d (.tup xs)), t2]) :
  b__law_alike dR [.p (.d (.tup xs)), .p (.d (.tup xs)), .no] = .rt (.d (.bl true)) [.p (.d (.tup xs)), .p (.d (.tup xs)), t2] := by
  unfold alB at h
  simp [b__law_alike, i3, i3l, j3, neb, e0, e1, h, -y13]
theorem al_tup (k : Nat) (xs : List D) (hl : xs.length ≤ 1000) (hx : ∀ x ∈ xs, AlikeK k x) : AlikeK (k + 1) (.tup xs) := by
  obtain ⟨t2, h⟩ := al_loop (d__law_alike k) xs hx xs.length 0 .no (by omega) rfl
  have hb := bT (d__law_alike k) xs (idx 0 xs.length) _ t2 y13 (gR1_n (by omega)) h
  show denFn [true, true] 3 (b__law_alike (d__law_alike k)) _ = _
  exact den_rt rfl hb rfl
theorem al_ints (k : Nat) (l : List Int) (hl : l.length ≤ 1000) : AlikeK (k + 2) (.tup (l.map .int)) := by
  refine al_tup (k + 1) _ (by rw [List.length_map]; exact hl) fun x hx => ?_
  obtain ⟨i, _, hi⟩ := List.mem_map.mp hx
  rw [← hi]
  exact al_int k i
/-! ### refused -/
def OkPair (p q : Int) : Prop := p ≤ 1000 ∧ isPrI p = true ∧ 3 ≤ q ∧ q ≤ 127 ∧ isPrI q = true ∧ (p - 1) % q = 0
instance (p q : Int) : Decidable (OkPair p q) := by unfold OkPair; infer_instance
abbrev newG : O := .obj "PowerGroup" [] []
abbrev cG : Sl := .v (.d (.cls "PowerGroup"))
theorem cmp2 (a b c : Int) (s0 s1 s3 s4 s5 : Sl) : dChain fLe fLe (vT (dC (.int a))) (vS 2) (vT (dC (.int c))) [s0, s1, .p (.d (.int b)), s3, s4, s5] = .ok (.d (.bl (decide (a ≤ b ∧ b ≤ c)))) [s0, s1, .p (.d (.int b)), s3, s4, s5] := by
  by_cases h1 : a ≤ b <;> by_cases h2 : b ≤ c <;> simp [dChain, h1, h2, fLe, onI]
end K05

namespace K05
open PySem L2 MX
theorem denS_rt {mask : List Bool} {os : List O} {n : Nat} {cn : String} {b : En → Out} {o : O} {e e0 : En} {ps : List (Option O)} (h0 : initE (mask ++ [false]) (os ++ [.d (.cls cn)]) n = e0) (h : b e0 = .rt o e) (hp : outE mask.length e = ps) : denFnS mask n cn b os = .ok o ps := by
  unfold denFnS
  rw [h0, h, ← hp]
theorem denS_nx {mask : List Bool} {os : List O} {n : Nat} {cn : String} {b : En → Out} {e e0 : En} {ps : List (Option O)} (h0 : initE (mask ++ [false]) (os ++ [.d (.cls cn)]) n = e0) (h : b e0 = .nx e) (hp : outE mask.length e = ps) : denFnS mask n cn b os = .ok (.d .non) ps := by
  unfold denFnS
  rw [h0, h, ← hp]
theorem denS_ex {mask : List Bool} {os : List O} {n : Nat} {cn : String} {b : En → Out} {c : String} {pl : List (Str × D)} {e e0 : En} {ps : List (Option O)} (h0 : initE (mask ++ [false]) (os ++ [.d (.cls cn)]) n = e0) (h : b e0 = .exc c pl e) (hp : outE mask.length e = ps) : denFnS mask n cn b os = .exc c pl ps := by
  unfold denFnS
  rw [h0, h, ← hp]
theorem seq_nx {a b : En → Out} {e e1 : En} {R : Out} (h : a e = .nx e1) (k : b e1 = R) : sSeq a b e = R := by simp [h, k]
theorem seq_ex {a b : En → Out} {e e1 : En} {c : String} {pl : List (Str × D)} (h : a e = .exc c pl e1) : sSeq a b e = .exc c pl e1 := by simp [h]
abbrev iI1 : En → Out := (sIf (dOrT (dTst (dBin fGt (vS 1) (vT (dC (.int 1000))))) (dNotT (dTst (dCallF d_is_prime [0] (cCons (gName 1) cNil))))) (sRaise "BadGroup") sNext)
abbrev iI2 : En → Out := (sIf (dOrT (dNotT (dTst (dChain fLe fLe (vT (dC (.int 3))) (vS 2) (vT (dC (.int 127)))))) (dOrT (dNotT (dTst (dCallF d_is_prime [0] (cCons (gName 2) cNil)))) (dTst (dBin fNe (vT (dBin fMod (vT (dBin fSub (vS 1) (vT (dC (.int 1))))) (vS 2))) (vT (dC (.int 0))))))) (sRaise "BadGroup") sNext)
abbrev e00 (p q : Int) : En := [.p newG, .p (.d (.int p)), .p (.d (.int q)), cG, .no, .no]
theorem iI1_ok (p q : Int) (h1 : p ≤ 1000) (h2 : isPrI p = true) : iI1 (e00 p q) = .nx (e00 p q) := by
  have c : ¬ (1000 < p) := by omega
  have v := v_ip p h1
  simp [c, v, h2]
theorem iI1_bad (p q : Int) (h : ¬ (p ≤ 1000 ∧ isPrI p = true)) : iI1 (e00 p q) = .exc "BadGroup" [] (e00 p q) := by
  by_cases c : 1000 < p
  · simp [c]
  · have v := v_ip p (by omega)
    have h2 : isPrI p = false := by
      cases q2 : isPrI p with
      | false => rfl
      | true => exact absurd ⟨by omega, q2⟩ h
    simp [c, v, h2]
theorem iI2_ok (p q : Int) (h1 : 3 ≤ q) (h2 : q ≤ 127) (h3 : isPrI q = true) (h4 : (p - 1) % q = 0) : iI2 (e00 p q) = .nx (e00 p q) := by
  have v := v_ip q (by omega)
  have hq : 0 < q := by omega
  simp [cmp2, h1, h2, v, h3, y17 hq, h4]
theorem iI2_bad (p q : Int) (h : ¬ (3 ≤ q ∧ q ≤ 127 ∧ isPrI q = true ∧ (p - 1) % q = 0)) : iI2 (e00 p q) = .exc "BadGroup" [] (e00 p q) := by
  by_cases c : 3 ≤ q ∧ q ≤ 127
  · have v := v_ip q (by omega)
    have hq : 0 < q := by omega
    cases h3 : isPrI q with
    | false => simp [cmp2, c.1, c.2, v, h3]
    | true =>
      have h4 : ¬ (p - 1) % q = 0 := fun z => h ⟨c.1, c.2, h3, z⟩
      simp [cmp2, c.1, c.2, v, h3, y17 hq, h4]
  · simp [cmp2, c]
theorem init_bad (p q : Int) (h : ¬ OkPair p q) : d_PowerGroup___init__ [newG, .d (.int p), .d (.int q)] = .exc "BadGroup" [] [some newG, some (.d (.int p)), some (.d (.int q))] := by
  show denFnS _ _ _ _ _ = _
  refine denS_ex (e := e00 p q) rfl ?_ rfl
  show sSeq iI1 (sSeq iI2 _) (e00 p q) = _
  by_cases c : p ≤ 1000 ∧ isPrI p = true
  · refine seq_nx (iI1_ok p q c.1 c.2) (seq_ex (iI2_bad p q fun z => h ⟨c.1, c.2, z.1, z.2.1, z.2.2.1, z.2.2.2⟩))
  · exact seq_ex (iI1_bad p q c)
theorem bRef (p q : Int) (h : d_PowerGroup___init__ [newG, .d (.int p), .d (.int q)] = .exc "BadGroup" [] [some newG, some (.d (.int p)), some (.d (.int q))]) :
  b__law_is_refused [.p (.d (.int p)), .p (.d (.int q))] = .rt (.d (.bl true)) [.p (.d (.int p)), .p (.d (.int q))] := by
  have f1 : sub_c "BadGroup" "BadGroup" = some true := by decide
  simp [b__law_is_refused, sTryM, sTryM.go, dMake, mkR, ord, h, f1]
theorem v_ref (p q : Int) (h : ¬ OkPair p q) : d__law_is_refused [.d (.int p), .d (.int q)] = .ok (.d (.bl true)) [some (.d (.int p)), some (.d (.int q))] := by
  show denFn _ _ _ _ = _
  exact den_rt rfl (bRef p q (init_bad p q h)) rfl
end K05

namespace K05
open PySem L2 MX
/-! ### the step, the powers -/
def nl (l : List Nat) : O := .lst (l.map fun (i : Nat) => .d (.int (i : Int)))
def itN (p a : Nat) : Nat → Nat → Nat
  | 0, s => s
  | m + 1, s => itN p a m (s * a % p)
theorem itN_pow {p a : Nat} : ∀ (m s : Nat), itN p a m s % p = s * a ^ m % p
  | 0, s => by show s % p = s * 1 % p; rw [Nat.mul_one]
  | m + 1, s => by
    show itN p a m (s * a % p) % p = _
    rw [itN_pow m, Nat.pow_succ, Nat.mod_mul_mod]
    congr 1
    rw [Nat.mul_assoc, Nat.mul_comm (a ^ m) a]
theorem itN_lt {p a : Nat} (hp : 1 < p) : ∀ (m s : Nat), s < p → itN p a m s < p
  | 0, s, h => h
  | m + 1, s, h => itN_lt hp m _ (Nat.mod_lt _ (by omega))
theorem it1 {p a m : Nat} (hp : 1 < p) : itN p a m 1 = a ^ m % p := by
  have h1 := itN_pow (p := p) (a := a) m 1
  rw [Nat.mod_eq_of_lt (itN_lt hp m 1 hp), Nat.one_mul] at h1
  exact h1
/-- the first member that is not the unit, from a on -/
def stepN (p e : Nat) : Nat → Nat → Nat
  | _, 0 => 1
  | a, f + 1 => if a ^ e % p = 1 then stepN p e (a + 1) f else a ^ e % p
theorem stepN_lt {p e : Nat} (hp : 1 < p) : ∀ (f a : Nat), stepN p e a f < p
  | 0, a => hp
  | f + 1, a => by
    unfold stepN
    split
    · exact stepN_lt hp f (a + 1)
    · exact Nat.mod_lt _ (by omega)
abbrev moB : En → Out := (sAsg (dBin fMod (vT (dBin fMul (vS 2) (vS 3))) (vS 0)) (tName 2))
theorem mo_loop (p q a : Nat) (hp : 1 < p) (hp2 : p ≤ 1000) : ∀ (m k s : Nat) (s4 : Sl), s < p → s4.pinned = false →
    ∃ t4, t4.pinned = false ∧ sForL (tName 4) moB (idx k m) [.p (.d (.int (p : Int))), .p (.d (.int (q : Int))), .v (.d (.int (s : Int))), .v (.d (.int (a : Int))), s4] = .nx [.p (.d (.int (p : Int))), .p (.d (.int (q : Int))), .v (.d (.int (itN p a m s : Nat))), .v (.d (.int (a : Int))), t4]
  | 0, k, s, s4, _, h4 => ⟨s4, h4, by rw [idx_0]; exact u1⟩
  | m + 1, k, s, s4, hs, h4 => by
    have hlt : s * a % p < p := Nat.mod_lt _ (by omega)
    obtain ⟨t4, g4, ih⟩ := mo_loop p q a hp hp2 m (k + 1) (s * a % p) (.v (.d (.int (k : Int)))) hlt rfl
    refine ⟨t4, g4, ?_⟩
    have ss := sm_nat (n := s) (by omega)
    have pp : 0 < (p : Int) := by omega
    rw [idx_s, u2]
    rw [show itN p a (m + 1) s = itN p a m (s * a % p) from rfl, ← ih]
    simp [h4, y15 ss, y17 pp]
abbrev mwC : En → Rs Bool := (dTst (dBin fEq (vS 2) (vT (dC (.int 1)))))
abbrev mwB : En → Out := (sSeq (sAug 3 fAddI (vT (dC (.int 1))))
  (sFor (iOps (vCons (vT (dBin fDiv (vT (dBin fSub (vS 0) (vT (dC (.int 1))))) (vS 1))) vNil) gR1) (tName 4) moB))
theorem mw_body (B : En → Out) (p q : Int) (a : Int) (ix : List D) (s4 t4 : Sl) (x x2 : Int) (hd : fDiv (.d (.int (p - 1))) (.d (.int q)) = some (.d (.int x))) (hg : gR1 [.d (.int x)] = some ix)
  (h : sForL (tName 4) B ix [.p (.d (.int p)), .p (.d (.int q)), .v (.d (.int 1)), .v (.d (.int (a + 1))), s4] = .nx [.p (.d (.int p)), .p (.d (.int q)), .v (.d (.int x2)), .v (.d (.int (a + 1))), t4]) :
  (sSeq (sAug 3 fAddI (vT (dC (.int 1)))) (sFor (iOps (vCons (vT (dBin fDiv (vT (dBin fSub (vS 0) (vT (dC (.int 1))))) (vS 1))) vNil) gR1) (tName 4) B)) [.p (.d (.int p)), .p (.d (.int q)), .v (.d (.int 1)), .v (.d (.int a)), s4] = .nx [.p (.d (.int p)), .p (.d (.int q)), .v (.d (.int x2)), .v (.d (.int (a + 1))), t4] := by
  simp [fAddI, onI, hd, hg, h]
theorem wh_yes {C : En → Rs Bool} {B : En → Out} {f : Nat} {e e1 : En} (h1 : C e = .ok true e) (h2 : B e = .nx e1) : sWhile C B (f + 1) e = sWhile C B f e1 := by
  conv => lhs; unfold sWhile
  rw [h1]
  simp only [Rs.out, if_true, h2]
theorem wh_no {C : En → Rs Bool} {B : En → Out} {f : Nat} {e : En} (h1 : C e = .ok false e) : sWhile C B (f + 1) e = .nx e := by
  conv => lhs; unfold sWhile
  rw [h1]
  rfl
theorem mwC_ok (p q s a : Int) (s4 : Sl) : mwC [.p (.d (.int p)), .p (.d (.int q)), .v (.d (.int s)), .v (.d (.int a)), s4] = .ok (decide (s = 1)) [.p (.d (.int p)), .p (.d (.int q)), .v (.d (.int s)), .v (.d (.int a)), s4] := by
  simp
theorem mw_loop (p q : Nat) (hp : 1 < p) (hp2 : p ≤ 1000) (hq : 0 < q) (hq2 : q ≤ 1000) : ∀ (f a fuel : Nat) (s4 : Sl), f + 1 < fuel → s4.pinned = false → stepN p ((p - 1) / q) (a + 1) f ≠ 1 →
    ∃ t3 t4, sWhile mwC mwB fuel [.p (.d (.int (p : Int))), .p (.d (.int (q : Int))), .v (.d (.int 1)), .v (.d (.int (a : Int))), s4] = .nx [.p (.d (.int (p : Int))), .p (.d (.int (q : Int))), .v (.d (.int (stepN p ((p - 1) / q) (a + 1) f : Nat))), t3, t4]
  | 0, a, fuel, s4, _, _, h => absurd rfl h
  | f + 1, a, 0, s4, hf, _, _ => by omega
  | f + 1, a, fuel + 1, s4, hf, h4, h => by
    obtain ⟨t4, g4, hl⟩ := mo_loop p q (a + 1) hp hp2 ((p - 1) / q) 0 1 s4 hp h4
    rw [it1 hp] at hl
    have hd : fDiv (.d (.int ((p : Int) - 1))) (.d (.int (q : Int))) = some (.d (.int (((p - 1) / q : Nat) : Int))) := by
      have e : ((p : Int) - 1) / (q : Int) = (((p - 1) / q : Nat) : Int) := by
        rw [Int.natCast_ediv, Int.natCast_sub (by omega)]; rfl
      rw [y18 (by omega) (by omega), e]
    have hb := mw_body moB (p : Int) (q : Int) (a : Int) (idx 0 ((p - 1) / q)) s4 t4 _ ((a + 1) ^ ((p - 1) / q) % p : Nat) hd (gR1_n (by
      have := Nat.div_le_self (p - 1) q
      omega)) (by
      have : ((a + 1 : Nat) : Int) = (a : Int) + 1 := by omega
      rw [this] at hl
      exact hl)
    have c1 := mwC_ok (p : Int) (q : Int) 1 (a : Int) s4
    rw [show decide ((1 : Int) = 1) = true by decide] at c1
    rw [wh_yes c1 hb]
    unfold stepN at h ⊢
    by_cases c : (a + 1) ^ ((p - 1) / q) % p = 1
    · rw [if_pos c] at h ⊢
      rw [c]
      exact mw_loop p q hp hp2 hq hq2 f (a + 1) fuel t4 (by omega) g4 h
    · rw [if_neg c] at h ⊢
      cases fuel with
      | zero => omega
      | succ fuel =>
        refine ⟨.v (.d (.int ((a : Int) + 1))), t4, ?_⟩
        have c2 := mwC_ok (p : Int) (q : Int) (((a + 1) ^ ((p - 1) / q) % p : Nat) : Int) ((a : Int) + 1) t4
        rw [show decide (((((a + 1) ^ ((p - 1) / q) % p : Nat) : Int)) = 1) = false from decide_eq_false (by omega)] at c2
        exact wh_no c2
end K05

namespace K05
open PySem L2 MX
theorem bMo (C : En → Rs Bool) (B : En → Out) (fu : En → Nat) (p q g : Int) (t3 t4 : Sl) (h : sWhile C B (fu [.p (.d (.int p)), .p (.d (.int q)), .v (.d (.int 1)), .v (.d (.int 1)), .no]) [.p (.d (.int p)), .p (.d (.int q)), .v (.d (.int 1)), .v (.d (.int 1)), .no] = .nx [.p (.d (.int p)), .p (.d (.int q)), .v (.d (.int g)), t3, t4]) :
  ∃ e, (sSeq (sAsg (dC (.int 1)) (tName 2)) (sSeq (sAsg (dC (.int 1)) (tName 3)) (sSeq (sWhileF fu C B) (sRet (dMove 2))))) [.p (.d (.int p)), .p (.d (.int q)), .no, .no, .no] = .rt (.d (.int g)) (.p (.d (.int p)) :: .p (.d (.int q)) :: e) := by
  apply Exists.intro
  simp [sWhileF, h]
  rfl
theorem v_mo (p q F : Nat) (hp : 1 < p) (hp2 : p ≤ 1000) (hq : 0 < q) (hq2 : q ≤ 1000) (hF : F ≤ 1000) (h : stepN p ((p - 1) / q) 2 F ≠ 1) :
    d__member_of_order [.d (.int (p : Int)), .d (.int (q : Int))] = .ok (.d (.int (stepN p ((p - 1) / q) 2 F : Nat))) [some (.d (.int (p : Int))), some (.d (.int (q : Int)))] := by
  obtain ⟨t3, t4, hl⟩ := mw_loop p q hp hp2 hq hq2 F 1 100000 .no (by omega) rfl h
  obtain ⟨e, he⟩ := bMo mwC mwB fu__member_of_order (p : Int) (q : Int) _ t3 t4 hl
  show denFn _ _ _ _ = _
  exact den_rt rfl he rfl
/-! the powers -/
def pwL (p g n : Nat) : List Nat := (List.range n).map fun i => g ^ i % p
theorem pwL_len {p g n : Nat} : (pwL p g n).length = n := by unfold pwL; rw [List.length_map, List.length_range]
theorem pwL_s {p g n : Nat} : pwL p g (n + 1) = pwL p g n ++ [g ^ n % p] := by unfold pwL; rw [List.range_succ, List.map_append]; rfl
theorem pwL_get {p g n i : Nat} (h : i < n) : (pwL p g n)[i]? = some (g ^ i % p) := by unfold pwL; rw [List.getElem?_map, List.getElem?_range h]; rfl
def di (i : Nat) : D := .int (i : Int)
theorem nl_map (l : List Nat) : nl l = .lst ((l.map di).map .d) := by unfold nl; rw [List.map_map]; rfl
theorem nl_ls (l : List Nat) : (nl l).ls = some (l.map di) := by rw [nl_map]; exact leafs_map _
theorem ix_at {l : List Nat} {i : Int} {x : Nat} (h : atI (l.map di) i = some (di x)) : fIx (nl l) (.d (.int i)) = some (.d (.int (x : Int))) := by
  have e3 : fIxL (nl l) (.d (.int i)) = some (.d (.int (x : Int))) := by
    show (match (nl l).ls with
      | some xs => (atI xs i).map O.d
      | none => none) = _
    rw [nl_ls]
    show (atI (l.map di) i).map O.d = _
    rw [h]; rfl
  show (match fIxL (nl l) (.d (.int i)) with
    | some z => some z
    | none => _) = _
  rw [e3]
theorem ix_last {l : List Nat} {x : Nat} : fIx (nl (l ++ [x])) (.d (.int (-1))) = some (.d (.int (x : Int))) := ix_at (by rw [List.map_append]; exact atI_last _ _)
theorem ix_nl {l : List Nat} {k x : Nat} (h : l[k]? = some x) : fIx (nl l) (.d (.int (k : Int))) = some (.d (.int (x : Int))) := ix_at (atI_nat (by rw [List.getElem?_map, h]; rfl))
theorem len_nl (l : List Nat) : fLenU [nl l] = some (.d (.int (l.length : Int))) := by
  show fLenU [O.lst _] = _
  rw [y14, List.length_map]
abbrev pwC : En → Rs Bool := (dTst (dBin fLt (vT (dCall fLenU (vCons (vS 5) vNil))) (vS 2)))
abbrev pwB : En → Out := (sExpr (dMut 5 fAppend (aCons (dBin fMod (vT (dBin fMul (vT (dBin fIx (vS 5) (vT (dUn fNeg (vT (dC (.int 1))))))) (vS 4))) (vS 1)) aNil)))
section
variable (s0 s3 : Sl) (p q g y n : Int) (os : List O)
theorem pw_c (e : fLenU [.lst os] = some (.d (.int n))) : pwC [s0, .p (.d (.int p)), .p (.d (.int q)), s3, .v (.d (.int g)), .v (.lst os)] = .ok (decide (n < q)) [s0, .p (.d (.int p)), .p (.d (.int q)), s3, .v (.d (.int g)), .v (.lst os)] := by
  simp [e, -y14]
theorem pw_b (h1 : fIx (.lst os) (.d (.int (-1))) = some (.d (.int y))) (sy : isSm y = true) (hp : 0 < p) (hz : os.length < 1000) : pwB [s0, .p (.d (.int p)), .p (.d (.int q)), s3, .v (.d (.int g)), .v (.lst os)] = .nx [s0, .p (.d (.int p)), .p (.d (.int q)), s3, .v (.d (.int g)), .v (.lst (os ++ [.d (.int (y * g % p))]))] := by
  have hz2 : os.length < sizeLine := Nat.lt_of_lt_of_le hz (by decide)
  simp [h1, y15 sy, y17 hp, fAppend, hz2]
end
theorem pw_loop (s0 s3 : Sl) (p q g : Nat) (hp : 1 < p) (hp2 : p ≤ 1000) (hq : q ≤ 1000) : ∀ (m n fuel : Nat), m < fuel → n + m = q → 1 ≤ n →
    sWhile pwC pwB fuel [s0, .p (.d (.int (p : Int))), .p (.d (.int (q : Int))), s3, .v (.d (.int (g : Int))), .v (nl (pwL p g n))] = .nx [s0, .p (.d (.int (p : Int))), .p (.d (.int (q : Int))), s3, .v (.d (.int (g : Int))), .v (nl (pwL p g q))]
  | _, _, 0, hf, _, _ => by omega
  | 0, n, fuel + 1, _, hn, _ => by
    obtain rfl : n = q := by omega
    have c := pw_c s0 s3 (p : Int) (n : Int) (g : Int) (n : Int) _ (show fLenU [.lst ((pwL p g n).map fun (i : Nat) => O.d (.int (i : Int)))] = some (.d (.int (n : Int))) by have := len_nl (pwL p g n); rw [pwL_len] at this; exact this)
    rw [show decide ((n : Int) < (n : Int)) = false from decide_eq_false (by omega)] at c
    exact wh_no c
  | m + 1, n, fuel + 1, hf, hn, h1 => by
    have c := pw_c s0 s3 (p : Int) (q : Int) (g : Int) (n : Int) _ (show fLenU [.lst ((pwL p g n).map fun (i : Nat) => O.d (.int (i : Int)))] = some (.d (.int (n : Int))) by have := len_nl (pwL p g n); rw [pwL_len] at this; exact this)
    rw [show decide ((n : Int) < (q : Int)) = true from decide_eq_true (by omega)] at c
    obtain ⟨k, rfl⟩ : ∃ k, n = k + 1 := ⟨n - 1, by omega⟩
    have hlast : fIx (nl (pwL p g (k + 1))) (.d (.int (-1))) = some (.d (.int ((g ^ k % p : Nat) : Int))) := by rw [pwL_s]; exact ix_last
    have hlt : g ^ k % p < p := Nat.mod_lt _ (by omega)
    have b := pw_b s0 s3 (p : Int) (q : Int) (g : Int) _ _ hlast (sm_nat (by omega)) (by omega) (by rw [List.length_map, pwL_len]; omega)
    have e : O.lst ((pwL p g (k + 1)).map (fun (i : Nat) => O.d (.int (i : Int))) ++ [.d (.int (((g ^ k % p : Nat) : Int) * (g : Int) % (p : Int)))]) = nl (pwL p g (k + 1 + 1)) := by
      rw [pwL_s (n := k + 1)]
      unfold nl
      rw [List.map_append]
      have : (((g ^ k % p : Nat) : Int) * (g : Int) % (p : Int)) = ((g ^ (k + 1) % p : Nat) : Int) := by
        rw [Nat.pow_succ, ← Nat.mod_mul_mod]
        rw [Int.natCast_emod (g ^ k % p * g) p, Int.natCast_mul]
      rw [this]
      rfl
    rw [e] at b
    refine Eq.trans (wh_yes c b) ?_
    exact pw_loop s0 s3 p q g hp hp2 hq m (k + 1 + 1) fuel (by omega) (by omega) (by omega)
end K05

namespace K05
open PySem L2 MX
/-! ### the object -/
theorem putKs_new : ∀ {ks : List Key} {xs : List O} {k : Key} {o : O}, ks.length = xs.length → k ∉ ks → putKs ks xs k o = (ks ++ [k], xs ++ [o])
  | [], [], _, _, _, _ => rfl
  | [], _ :: _, _, _, h, _ => by cases h
  | _ :: _, [], _, _, h, _ => by cases h
  | k0 :: ks, x :: xs, k, o, h, hn => by
    have h1 : ¬ k0 = k := fun q => hn (by rw [q]; exact List.mem_cons_self)
    have ih := putKs_new (ks := ks) (xs := xs) (k := k) (o := o) (Nat.succ.inj h) (fun q => hn (List.mem_cons_of_mem _ q))
    show (if k0 = k then _ else _) = _
    rw [if_neg h1, ih]; rfl
def ky (i : Nat) : Key := Sum.inl (i : Int)
abbrev dcT : Tg := (tTupl (tgCons (tName 2) (tgCons (tName 3) tgNil)))
theorem dc_step (s0 s1 : Sl) (i x : Int) (ds : List D) (ks : List Key) (xs : List O) (R : Rs O) (hl : ks.length = xs.length) (hn : (Sum.inl x : Key) ∉ ks) (hz : ks.length < 1000)
  (h : dcL [2, 3] dcT dYes (dVar 3) (dVar 2) ds (ks ++ [Sum.inl x]) (xs ++ [.d (.int i)]) [s0, s1, .no, .no] = R) : dcL [2, 3] dcT dYes (dVar 3) (dVar 2) (.tup [.int i, .int x] :: ds) ks xs [s0, s1, .no, .no] = R := by
  have hz2 : ks.length < sizeLine := Nat.lt_of_lt_of_le hz (by decide)
  have t : dcT (.d (.tup [.int i, .int x])) [s0, s1, .no, .no] = some [s0, s1, .v (.d (.int i)), .v (.d (.int x))] := by simp
  have k : dVar 3 [s0, s1, .v (.d (.int i)), .v (.d (.int x))] = .ok (.d (.int x)) [s0, s1, .v (.d (.int i)), .v (.d (.int x))] := by simp
  have v : dVar 2 [s0, s1, .v (.d (.int i)), .v (.d (.int x))] = .ok (.d (.int i)) [s0, s1, .v (.d (.int i)), .v (.d (.int x))] := by simp
  have ko : keyO (.d (.int x)) = some (Sum.inl x) := rfl
  have w : wipeE [s0, s1, .v (.d (.int i)), .v (.d (.int x))] [2, 3] = [s0, s1, .no, .no] := rfl
  have pk := putKs_new (o := .d (.int i)) hl hn
  have y : dYes [s0, s1, .v (.d (.int i)), .v (.d (.int x))] = .ok true [s0, s1, .v (.d (.int i)), .v (.d (.int x))] := rfl
  unfold dcL
  simp only [t, y, k, ko, v, if_pos hz2, w, pk, h]
theorem dc_loop (s0 s1 : Sl) : ∀ (l : List Nat) (i : Nat) (ks : List Key) (xs : List O), ks.length = xs.length → ks.length + l.length < 1000 → l.Nodup → (∀ x ∈ l, ky x ∉ ks) →
    dcL [2, 3] dcT dYes (dVar 3) (dVar 2) (enumL i (l.map di)) ks xs [s0, s1, .no, .no] = .ok (.dic (ks ++ l.map ky) (xs ++ (List.range' i l.length).map fun j => O.d (di j))) [s0, s1, .no, .no]
  | [], i, ks, xs, _, _, _, _ => by
    show Rs.ok _ _ = _
    simp
  | x :: l, i, ks, xs, hl, hz, nd, hn => by
    rw [List.length_cons] at hz
    have nd2 := List.nodup_cons.mp nd
    have h1 : ky x ∉ ks := hn x List.mem_cons_self
    have ih := dc_loop s0 s1 l (i + 1) (ks ++ [ky x]) (xs ++ [.d (di i)]) (by rw [List.length_append, List.length_append, hl]; rfl) (by rw [List.length_append, List.length_singleton]; omega) nd2.2 (fun y hy q => by
      rcases List.mem_append.mp q with q | q
      · exact hn y (List.mem_cons_of_mem _ hy) q
      · have : y = x := by
          have := List.mem_singleton.mp q
          unfold ky at this
          injection this with this
          omega
        rw [this] at hy
        exact nd2.1 hy)
    refine dc_step s0 s1 (i : Int) (x : Int) _ ks xs _ hl h1 (by omega) ?_
    refine Eq.trans ih ?_
    rw [List.length_cons, List.range'_succ]
    simp [di]
theorem fst_ok {cs : List String} {i : Nat} {f : Str} {dv : En → Rs O} {e e1 : En} {o : O} {c : String} {ns : List Str} {xs : List O} (h1 : dv e = .ok o e1) (h2 : slot e1 i = some (.obj c ns xs)) (h3 : c ∈ cs) (h4 : ns.length < 1000) : sFst cs i f dv e = .nx (putS e1 i (.obj c (putNs f ns) (putOs f o ns xs))) := by
  unfold sFst
  rw [h1]
  show (match slot e1 i with | some (.obj c ns xs) => _ | _ => _) = _
  rw [h2]
  show (if c ∈ cs ∧ ns.length < 1000 then _ else _) = _
  rw [if_pos ⟨h3, h4⟩]
abbrev f1 : List Str := ["order"]
abbrev f2 : List Str := ["order", "unit"]
abbrev f3 : List Str := ["order", "unit", "members"]
abbrev f4 : List Str := ["order", "unit", "members", "_powers"]
abbrev f5 : List Str := ["order", "unit", "members", "_powers", "_exponents"]
abbrev f6 : List Str := ["order", "unit", "members", "_powers", "_exponents", "modulus"]
section
variable (t : O) (a1 a2 a3 a4 a5 a6 : O) (dv : En → Rs O)
theorem g1 (h : dv [.p (.obj "PowerGroup" [] []), .p t, .no, .no] = .ok a1 [.p (.obj "PowerGroup" [] []), .p t, .no, .no]) : sFst cs_ 0 "order" dv [.p (.obj "PowerGroup" [] []), .p t, .no, .no] = .nx [.p (.obj "PowerGroup" f1 [a1]), .p t, .no, .no] := Eq.trans (fst_ok h rfl (by decide) (by decide)) rfl
theorem g2 (h : dv [.p (.obj "PowerGroup" f1 [a1]), .p t, .no, .no] = .ok a2 [.p (.obj "PowerGroup" f1 [a1]), .p t, .no, .no]) : sFst cs_ 0 "unit" dv [.p (.obj "PowerGroup" f1 [a1]), .p t, .no, .no] = .nx [.p (.obj "PowerGroup" f2 [a1, a2]), .p t, .no, .no] := Eq.trans (fst_ok h rfl (by decide) (by decide)) rfl
theorem g3 (h : dv [.p (.obj "PowerGroup" f2 [a1, a2]), .p t, .no, .no] = .ok a3 [.p (.obj "PowerGroup" f2 [a1, a2]), .p t, .no, .no]) : sFst cs_ 0 "members" dv [.p (.obj "PowerGroup" f2 [a1, a2]), .p t, .no, .no] = .nx [.p (.obj "PowerGroup" f3 [a1, a2, a3]), .p t, .no, .no] := Eq.trans (fst_ok h rfl (by decide) (by decide)) rfl
theorem g4 (h : dv [.p (.obj "PowerGroup" f3 [a1, a2, a3]), .p t, .no, .no] = .ok a4 [.p (.obj "PowerGroup" f3 [a1, a2, a3]), .p t, .no, .no]) : sFst cs_ 0 "_powers" dv [.p (.obj "PowerGroup" f3 [a1, a2, a3]), .p t, .no, .no] = .nx [.p (.obj "PowerGroup" f4 [a1, a2, a3, a4]), .p t, .no, .no] := Eq.trans (fst_ok h rfl (by decide) (by decide)) rfl
theorem g5 (h : dv [.p (.obj "PowerGroup" f4 [a1, a2, a3, a4]), .p t, .no, .no] = .ok a5 [.p (.obj "PowerGroup" f4 [a1, a2, a3, a4]), .p t, .no, .no]) : sFst cs_ 0 "_exponents" dv [.p (.obj "PowerGroup" f4 [a1, a2, a3, a4]), .p t, .no, .no] = .nx [.p (.obj "PowerGroup" f5 [a1, a2, a3, a4, a5]), .p t, .no, .no] := Eq.trans (fst_ok h rfl (by decide) (by decide)) rfl
end
end K05

namespace K05
open PySem L2 MX
def inss (x : Nat) : List Nat → List Nat
  | [] => [x]
  | y :: ys => if x ≤ y then x :: y :: ys else y :: inss x ys
def srt : List Nat → List Nat
  | [] => []
  | x :: xs => inss x (srt xs)
theorem ins_cast (x : Nat) : ∀ l : List Nat, insI (x : Int) (l.map fun (i : Nat) => (i : Int)) = (inss x l).map fun (i : Nat) => (i : Int)
  | [] => rfl
  | y :: l => by
    show (if (x : Int) ≤ (y : Int) then _ else _) = List.map _ (if x ≤ y then _ else _)
    by_cases h : x ≤ y
    · rw [if_pos h, if_pos (by omega)]; rfl
    · rw [if_neg h, if_neg (by omega), ins_cast x l]; rfl
theorem sort_cast : ∀ l : List Nat, sortI (l.map fun (i : Nat) => (i : Int)) = (srt l).map fun (i : Nat) => (i : Int)
  | [] => rfl
  | x :: l => by
    show insI (x : Int) (sortI (l.map fun (i : Nat) => (i : Int))) = _
    rw [sort_cast l, ins_cast]; rfl
theorem intsD_di : ∀ l : List Nat, intsD (l.map di) = some (l.map fun (i : Nat) => (i : Int))
  | [] => rfl
  | x :: l => by
    show (intsD (l.map di)).map ((x : Int) :: ·) = _
    rw [intsD_di l]; rfl
theorem sorted_di (l : List Nat) : on1 fSorted [.d (.tup (l.map di))] = some (nl (srt l)) := by
  show (intsD (l.map di)).map _ = _
  rw [intsD_di]
  show some (O.lst ((sortI (l.map fun (i : Nat) => (i : Int))).map fun i => O.d (.int i))) = _
  rw [sort_cast]
  unfold nl
  rw [List.map_map]; rfl
theorem tup_nl (l : List Nat) : on1 fTuple [nl l] = some (.d (.tup (l.map di))) := by
  show (nl l).ls.map (fun ds => O.d (.tup ds)) = _
  rw [nl_ls]
  rfl
theorem ixT_di {l : List Nat} {k x : Nat} (h : l[k]? = some x) : fIx (.d (.tup (l.map di))) (.d (.int (k : Int))) = some (.d (di x)) := ixT_map (f := di) h
theorem inGrp (t : D) (q : Int) (a2 a3 : D) (xs : List O) (ks : List Key) (e1 : fLenU [.d t] = some (.d (.int q))) (e2 : fIx (.d t) (.d (.int 0)) = some (.d a2)) (m : O) (e3 : on1 fSorted [.d t] = some m) (e3' : on1 fTuple [m] = some (.d a3))
  (e4 : dDc (iAr (aCons (dVar 1) aNil) gEnum) [2, 3] dcT dYes (dVar 3) (dVar 2) [.p (.obj "PowerGroup" f4 [.d (.int q), .d a2, .d a3, .d t]), .p (.d t), .no, .no] = .ok (.dic ks xs) [.p (.obj "PowerGroup" f4 [.d (.int q), .d a2, .d a3, .d t]), .p (.d t), .no, .no]) :
  d_Group___init__ [newG, .d t] = .ok (.d .non) [some (.obj "PowerGroup" f5 [.d (.int q), .d a2, .d a3, .d t, .d (.dic ks (fzs xs))]), some (.d t)] := by
  show denFn _ _ _ _ = _
  refine den_nx (e := [.p (.obj "PowerGroup" f5 [.d (.int q), .d a2, .d a3, .d t, .d (.dic ks (fzs xs))]), .p (.d t), .no, .no]) rfl ?_ rfl
  refine seq_nx (g1 _ _ _ (by simp [e1])) (seq_nx (g2 _ _ _ _ (by simp [e2])) (seq_nx (g3 _ _ _ _ _ (by simp [e3, e3'])) (seq_nx (g4 _ _ _ _ _ _ (by simp)) (g5 _ _ _ _ _ (.d (.dic ks (fzs xs))) _ ?_))))
  show dFz (dDc _ _ dcT dYes (dVar 3) (dVar 2)) _ = _
  rw [z79, e4]
  rfl
theorem dDc_ok (s0 : O) (l : List Nat) (hz : l.length < 1000) (nd : l.Nodup) : dDc (iAr (aCons (dVar 1) aNil) gEnum) [2, 3] dcT dYes (dVar 3) (dVar 2) [.p s0, .p (.d (.tup (l.map di))), .no, .no]
    = .ok (.dic (l.map ky) ((List.range' 0 l.length).map fun j => O.d (di j))) [.p s0, .p (.d (.tup (l.map di))), .no, .no] := by
  have h := dc_loop (.p s0) (.p (.d (.tup (l.map di)))) l 0 [] [] rfl (by show 0 + _ < _; omega) nd (fun _ _ q => nomatch q)
  rw [List.nil_append, List.nil_append] at h
  have w : wipeE [.p s0, .p (.d (.tup (l.map di))), .no, .no] [2, 3] = [.p s0, .p (.d (.tup (l.map di))), .no, .no] := rfl
  have i : iAr (aCons (dVar 1) aNil) gEnum [.p s0, .p (.d (.tup (l.map di))), .no, .no] = .ok (enumL 0 (l.map di)) [.p s0, .p (.d (.tup (l.map di))), .no, .no] := by
    have : gEnum [.tup (l.map di)] = some (enumL 0 (l.map di)) := rfl
    simp [this]
  unfold dDc
  rw [i]
  simp only [Rs.bind_ok]
  rw [w]
  exact h
theorem fzs_di (l : List Nat) : fzs (l.map fun j => O.d (di j)) = l.map di := by
  have := fzs_leaf (l.map di)
  rw [List.map_map] at this
  exact this
/-- what the base class's __init__ leaves -/
def G5 (l mb : List Nat) : O := .obj "PowerGroup" f5 [.d (di l.length), .d (di 1), .d (.tup (mb.map di)), .d (.tup (l.map di)), .d (.dic (l.map ky) ((List.range' 0 l.length).map di))]
def G6 (p : Nat) (l mb : List Nat) : O := .obj "PowerGroup" f6 [.d (di l.length), .d (di 1), .d (.tup (mb.map di)), .d (.tup (l.map di)), .d (.dic (l.map ky) ((List.range' 0 l.length).map di)), .d (di p)]
/-- the group -/
def Gd (p : Nat) (l mb : List Nat) : D := .obj "PowerGroup" f6 [di l.length, di 1, .tup (mb.map di), .tup (l.map di), .dic (l.map ky) ((List.range' 0 l.length).map di), di p]
theorem G6_fz {p : Nat} {l mb : List Nat} : (G6 p l mb).fz = Gd p l mb := rfl
theorem v_Ginit (l : List Nat) (hz : l.length < 1000) (nd : l.Nodup) (h1 : l[0]? = some 1) : d_Group___init__ [newG, .d (.tup (l.map di))] = .ok (.d .non) [some (G5 l (srt l)), some (.d (.tup (l.map di)))] := by
  have e1 : fLenU [.d (.tup (l.map di))] = some (.d (.int (l.length : Int))) := by rw [y13, List.length_map]
  have e2 : fIx (.d (.tup (l.map di))) (.d (.int 0)) = some (.d (di 1)) := ixT_di (k := 0) h1
  have := inGrp (.tup (l.map di)) (l.length : Int) (di 1) (.tup ((srt l).map di)) _ _ e1 e2 (nl (srt l)) (sorted_di l) (tup_nl (srt l)) (dDc_ok _ l hz nd)
  rw [fzs_di] at this
  exact this
theorem supRow (p q g : O) (L : O) (t : D) (o5 : O) (c : String) (ns : List Str) (xs : List O) (ho : o5 = .obj c ns xs) (h1 : on1 fTuple [L] = some (.d t)) (h2 : d_Group___init__ [newG, .d t] = .ok (.d .non) [some o5, some (.d t)]) :
  (sExpr (dSup 3 "PowerGroup" (dCallF d_Group___init__ [0, 1] (cCons (gSlf cs_ 0) (cCons (gVal (dCall (on1 fTuple) (vCons (vS 5) vNil))) cNil))))) [.p newG, .p p, .p q, cG, .v g, .v L] = .nx [.p o5, .p p, .p q, cG, .v g, .v L] := by
  subst ho
  have hc : "PowerGroup" ∈ cs_ := by decide
  simp [dSup, gSlf, h1, h2]
theorem lastRow (p q g L : O) (a1 a2 a3 a4 a5 : O) : sFst cs_ 0 "modulus" (dVar 1) [.p (.obj "PowerGroup" f5 [a1, a2, a3, a4, a5]), .p (.d p.fz), .p q, cG, .v g, .v L] = .nx [.p (.obj "PowerGroup" f6 [a1, a2, a3, a4, a5, .d p.fz]), .p (.d p.fz), .p q, cG, .v g, .v L] := by
  have h : dVar 1 [.p (.obj "PowerGroup" f5 [a1, a2, a3, a4, a5]), .p (.d p.fz), .p q, cG, .v g, .v L] = .ok (.d p.fz) [.p (.obj "PowerGroup" f5 [a1, a2, a3, a4, a5]), .p (.d p.fz), .p q, cG, .v g, .v L] := by simp
  exact Eq.trans (fst_ok h rfl (by decide) (by decide)) rfl
/-- the step of a pair -/
def fuelP (p : Nat) : Nat := min 20 (p - 2)
def stP (p q : Nat) : Nat := stepN p ((p - 1) / q) 2 (fuelP p)
theorem v_init (p q : Nat) (ok : OkPair p q) (hg : stP p q ≠ 1) (nd : (pwL p (stP p q) q).Nodup) :
    d_PowerGroup___init__ [newG, .d (.int (p : Int)), .d (.int (q : Int))] = .ok (.d .non) [some (G6 p (pwL p (stP p q) q) (srt (pwL p (stP p q) q))), some (.d (.int (p : Int))), some (.d (.int (q : Int)))] := by
  obtain ⟨h1, h2, h3, h4, h5, h6⟩ := ok
  have hp1 : 1 < p := by
    have : ¬ ((p : Int) < 2) := fun z => by unfold isPrI at h2; rw [if_pos z] at h2; cases h2
    omega
  have hF : fuelP p ≤ 1000 := by unfold fuelP; omega
  show denFnS _ _ _ _ _ = _
  refine denS_nx (e := [.p (G6 p (pwL p (stP p q) q) (srt (pwL p (stP p q) q))), .p (.d (.int (p : Int))), .p (.d (.int (q : Int))), cG, .v (.d (.int (stP p q : Nat))), .v (nl (pwL p (stP p q) q))]) rfl ?_ rfl
  show sSeq iI1 (sSeq iI2 _) (e00 p q) = _
  refine seq_nx (iI1_ok p q h1 h2) (seq_nx (iI2_ok p q h3 h4 h5 h6) ?_)
  have m := v_mo p q (fuelP p) hp1 (by omega) (by omega) (by omega) hF hg
  refine seq_nx (e1 := [.p newG, .p (.d (.int (p : Int))), .p (.d (.int (q : Int))), cG, .v (.d (.int (stP p q : Nat))), .no]) (by simp [m]; rfl) ?_
  refine seq_nx (e1 := [.p newG, .p (.d (.int (p : Int))), .p (.d (.int (q : Int))), cG, .v (.d (.int (stP p q : Nat))), .v (nl (pwL p (stP p q) 1))]) ?_ ?_
  · have z1 : (1 : Nat) ≤ sizeLine := by decide
    have : nl (pwL p (stP p q) 1) = .lst [.d (.int 1)] := by
      show O.lst [.d (.int ((stP p q ^ 0 % p : Nat) : Int))] = _
      rw [Nat.pow_zero, Nat.mod_eq_of_lt hp1]; rfl
    rw [this]
    simp [z1]
  have lw := pw_loop (.p newG) cG p q (stP p q) hp1 (by omega) (by omega) (q - 1) 1 100000 (by omega) (by omega) (by omega)
  refine seq_nx (e1 := [.p newG, .p (.d (.int (p : Int))), .p (.d (.int (q : Int))), cG, .v (.d (.int (stP p q : Nat))), .v (nl (pwL p (stP p q) q))]) lw ?_
  have gi := v_Ginit (pwL p (stP p q) q) (by rw [pwL_len]; omega) nd (by rw [pwL_get (by omega), Nat.pow_zero, Nat.mod_eq_of_lt hp1])
  refine seq_nx (supRow (.d (.int (p : Int))) (.d (.int (q : Int))) (.d (.int (stP p q : Nat))) _ _ _ _ _ _ rfl (tup_nl _) gi) ?_
  exact lastRow (.d (.int (p : Int))) (.d (.int (q : Int))) (.d (.int (stP p q : Nat))) _ _ _ _ _ _
end K05

namespace K05
open PySem L2 MX
/-! ### methods -/
section
variable (G P E : D) (n a e i x m b : Int)
theorem bPow (h1 : fFld cs_ "_powers" (.d G) = some (.d P)) (h2 : fFld cs_ "_exponents" (.d G) = some (.d E)) (h3 : fFld cs_ "order" (.d G) = some (.d (.int n))) (h4 : fIx (.d E) (.d (.int a)) = some (.d (.int i))) (hs : isSm i = true) (hn : 0 < n) (h5 : fIx (.d P) (.d (.int (i * e % n))) = some (.d (.int x))) :
  d_Group_power [.d G, .d (.int a), .d (.int e)] = .ok (.d (.int x)) [some (.d G), some (.d (.int a)), some (.d (.int e))] := by
  show denFn _ _ _ _ = _
  refine den_rt (e := [.p (.d G), .p (.d (.int a)), .p (.d (.int e))]) (e0 := [.p (.d G), .p (.d (.int a)), .p (.d (.int e))]) rfl ?_ rfl
  simp [b_Group_power, h1, h2, h3, h4, y15 hs, y17 hn, h5]
theorem tabP (c : String) (h : c = "PowerGroup") : tab_power c = some d_Group_power := by subst h; rfl
theorem tabI (c : String) (h : c = "PowerGroup") : tab_inverse_of c = some d_Group_inverse_of := by subst h; rfl
theorem tabH (c : String) (h : c = "PowerGroup") : tab_has c = some d_Group_has := by subst h; rfl
theorem tabM (c : String) (h : c = "PowerGroup") : tab_multiply c = some d_PowerGroup_multiply := by subst h; rfl
theorem bInv (hc : clsO "power" (.d G) = some "PowerGroup") (h : d_Group_power [.d G, .d (.int a), .d (.int (-1))] = .ok (.d (.int x)) [some (.d G), some (.d (.int a)), some (.d (.int (-1)))]) :
  d_Group_inverse_of [.d G, .d (.int a)] = .ok (.d (.int x)) [some (.d G), some (.d (.int a))] := by
  show denFn _ _ _ _ = _
  refine den_rt (e := [.p (.d G), .p (.d (.int a))]) (e0 := [.p (.d G), .p (.d (.int a))]) rfl ?_ rfl
  simp [b_Group_inverse_of, dMth, mthR, hc, tabP, h]
theorem bMul (h3 : fFld cs_ "modulus" (.d G) = some (.d (.int m))) (hs : isSm a = true) (hm : 0 < m) : d_PowerGroup_multiply [.d G, .d (.int a), .d (.int b)] = .ok (.d (.int (a * b % m))) [some (.d G), some (.d (.int a)), some (.d (.int b))] := by
  show denFn _ _ _ _ = _
  refine den_rt (e := [.p (.d G), .p (.d (.int a)), .p (.d (.int b))]) (e0 := [.p (.d G), .p (.d (.int a)), .p (.d (.int b))]) rfl ?_ rfl
  simp [b_PowerGroup_multiply, h3, y15 hs, y17 hm]
theorem bHas1 (r : Bool) (h2 : fFld cs_ "_exponents" (.d G) = some (.d E)) (h4 : fInU (.d (.int a)) (.d E) = some (.d (.bl r))) : d_Group_has [.d G, .d (.int a)] = .ok (.d (.bl r)) [some (.d G), some (.d (.int a))] := by
  show denFn _ _ _ _ = _
  refine den_rt (e := [.p (.d G), .p (.d (.int a))]) (e0 := [.p (.d G), .p (.d (.int a))]) rfl ?_ rfl
  simp [b_Group_has, i2, h2, h4]
theorem bHas0 (v : D) (h : on2 fIsi [.d v, .d (.ty "int")] = some (.d (.bl false))) : d_Group_has [.d G, .d v] = .ok (.d (.bl false)) [some (.d G), some (.d v)] := by
  show denFn _ _ _ _ = _
  refine den_rt (e := [.p (.d G), .p (.d v)]) (e0 := [.p (.d G), .p (.d v)]) rfl ?_ rfl
  simp [b_Group_has, h]
end
/-! ### looking up -/
theorem getK_in : ∀ {l : List Nat} {os : List O} {i x : Nat}, l.Nodup → l.length = os.length → l[i]? = some x → getK (l.map ky) os (ky x) = os[i]?
  | [], _, _, _, _, _, h => by simp at h
  | y :: l, [], _, _, _, h, _ => by cases h
  | y :: l, o :: os, 0, x, nd, hl, h => by
    have : y = x := by simpa using h
    subst this
    show (if ky y = ky y then _ else _) = _
    rw [if_pos rfl]; rfl
  | y :: l, o :: os, i + 1, x, nd, hl, h => by
    have nd2 := List.nodup_cons.mp nd
    have hx : x ∈ l := List.mem_of_getElem? (by simpa using h)
    have hne : ¬ ky y = ky x := fun q => by
      unfold ky at q
      injection q with q
      have : y = x := by omega
      rw [this] at nd2
      exact nd2.1 hx
    show (if ky y = ky x then _ else getK (l.map ky) os (ky x)) = _
    rw [if_neg hne, getK_in nd2.2 (Nat.succ.inj hl) (by simpa using h)]; simp
theorem getK_some {k : Int} : ∀ {l : List Nat} {os : List O}, l.length = os.length → (getK (l.map ky) os (Sum.inl k)).isSome = decide (k ∈ l.map fun (i : Nat) => (i : Int))
  | [], [], _ => rfl
  | [], _ :: _, h => by cases h
  | y :: l, [], h => by cases h
  | y :: l, o :: os, h => by
    show (if ky y = Sum.inl k then _ else getK (l.map ky) os (Sum.inl k)).isSome = _
    by_cases q : (y : Int) = k
    · rw [if_pos (show ky y = Sum.inl k by unfold ky; rw [q])]
      simp [q]
    · have q2 : ¬ ky y = Sum.inl k := fun z => by
        unfold ky at z
        injection z with z
        exact q z
      rw [if_neg q2, getK_some (Nat.succ.inj h)]
      have q3 : ¬ k = (y : Int) := fun z => q z.symm
      simp [q3]
def memI (v : Int) (l : List Nat) : Bool := decide (v ∈ l.map fun (i : Nat) => (i : Int))
section
variable (p : Nat) (l mb : List Nat)
theorem f_ord : fFld cs_ "order" (.d (Gd p l mb)) = some (.d (.int (l.length : Int))) := rfl
theorem f_unit : fFld cs_ "unit" (.d (Gd p l mb)) = some (.d (.int 1)) := rfl
theorem f_mem : fFld cs_ "members" (.d (Gd p l mb)) = some (.d (.tup (mb.map di))) := rfl
theorem f_pow : fFld cs_ "_powers" (.d (Gd p l mb)) = some (.d (.tup (l.map di))) := rfl
theorem f_exp : fFld cs_ "_exponents" (.d (Gd p l mb)) = some (.d (.dic (l.map ky) ((List.range' 0 l.length).map di))) := rfl
theorem f_mod : fFld cs_ "modulus" (.d (Gd p l mb)) = some (.d (.int (p : Int))) := rfl
theorem c_pow : clsO "power" (.d (Gd p l mb)) = some "PowerGroup" := rfl
theorem c_inv : clsO "inverse_of" (.d (Gd p l mb)) = some "PowerGroup" := rfl
theorem c_has : clsO "has" (.d (Gd p l mb)) = some "PowerGroup" := rfl
theorem c_mul : clsO "multiply" (.d (Gd p l mb)) = some "PowerGroup" := rfl
theorem ix_exp {i x : Nat} (nd : l.Nodup) (h : l[i]? = some x) : fIx (.d (.dic (l.map ky) ((List.range' 0 l.length).map di))) (.d (.int (x : Int))) = some (.d (.int (i : Int))) := by
  have hi : i < l.length := (List.getElem?_eq_some_iff.mp h).1
  have g := getK_in (os := ((List.range' 0 l.length).map di).map O.d) nd (by rw [List.length_map, List.length_map, List.length_range']) h
  have e : (((List.range' 0 l.length).map di).map O.d)[i]? = some (.d (di i)) := by
    rw [List.getElem?_map, List.getElem?_map, List.getElem?_range' hi]
    simp
  rw [e] at g
  show (match getK (l.map ky) (((List.range' 0 l.length).map di).map O.d) (ky x) with
    | some (O.d x) => some (O.d x)
    | _ => none) = _
  rw [g]; rfl
theorem in_exp (v : Int) : fInU (.d (.int v)) (.d (.dic (l.map ky) ((List.range' 0 l.length).map di))) = some (.d (.bl (memI v l))) := by
  show some (O.d (.bl (getK (l.map ky) (((List.range' 0 l.length).map di).map O.d) (Sum.inl v)).isSome)) = _
  rw [getK_some (by rw [List.length_map, List.length_map, List.length_range'])]
  rfl
end
theorem flats_di : ∀ l : List Nat, flats (l.map di) = some (l.map fun (i : Nat) => V.int (i : Int))
  | [] => rfl
  | x :: l => by
    show (match (di x).flat, flats (l.map di) with
      | some v, some vs => some (v :: vs)
      | _, _ => none) = _
    rw [flats_di l]; rfl
theorem inV_di (v : Int) : ∀ l : List Nat, inV (.int v) (l.map fun (i : Nat) => V.int (i : Int)) = memI v l
  | [] => rfl
  | x :: l => by
    show (eqV (.int (x : Int)) (.int v) || inV (.int v) (l.map fun (i : Nat) => V.int (i : Int))) = _
    rw [inV_di v l]
    unfold memI
    have e : eqV (.int (x : Int)) (.int v) = decide (v = (x : Int)) := Bool.eq_iff_iff.mpr ⟨fun q => decide_eq_true (beq_iff_eq.mp q).symm, fun q => beq_iff_eq.mpr (of_decide_eq_true q).symm⟩
    rw [e]
    by_cases h : v = (x : Int) <;> simp [h]
theorem in_tup (v : Int) (l : List Nat) : fInU (.d (.int v)) (.d (.tup (l.map di))) = some (.d (.bl (memI v l))) := by
  have e : din (.d (.int v)) (.d (.tup (l.map di))) = some (memI v l) := by
    show (match (D.int v).flat, flats (l.map di) with
      | some v, some vs => some (inV v vs)
      | _, _ => none) = _
    rw [flats_di]
    show some (inV (.int v) _) = _
    rw [inV_di]
  have e2 : fIn (.d (.int v)) (.d (.tup (l.map di))) = some (.d (.bl (memI v l))) := by unfold fIn; rw [e]; rfl
  unfold fInU
  rw [e2]
theorem in_nl (v : Int) (l : List Nat) : fInU (.d (.int v)) (nl l) = some (.d (.bl (memI v l))) := by
  have e0 : (nl l).items = some (l.map di) := nl_ls l
  have e : din (.d (.int v)) (nl l) = some (memI v l) := by
    unfold din
    rw [e0]
    show (match (D.int v).flat, flats (l.map di) with
      | some v, some vs => some (inV v vs)
      | _, _ => none) = _
    rw [flats_di]
    show some (inV (.int v) _) = _
    rw [inV_di]
  have e2 : fIn (.d (.int v)) (nl l) = some (.d (.bl (memI v l))) := by unfold fIn; rw [e]; rfl
  unfold fInU
  rw [e2]
end K05

namespace K05
open PySem L2 MX
/-! ### the law's own powers -/
def toN (p : Nat) : Nat → Nat → Nat → Nat → Nat
  | 0, t, _, _ => t
  | m + 1, t, o, l => toN p m (if l % 2 = 1 then t * o % p else t) (o * o % p) (l / 2)
theorem toN_pow {p : Nat} : ∀ (m t o l : Nat), l < 2 ^ m → toN p m t o l % p = t * o ^ l % p
  | 0, t, o, l, h => by
    have : l = 0 := by omega
    subst this
    show t % p = t * 1 % p
    rw [Nat.mul_one]
  | m + 1, t, o, l, h => by
    have hl : l / 2 < 2 ^ m := by rw [Nat.pow_succ] at h; omega
    show toN p m (if l % 2 = 1 then t * o % p else t) (o * o % p) (l / 2) % p = _
    rw [toN_pow m _ _ _ hl]
    have e1 : ∀ x : Nat, x * (o * o % p) ^ (l / 2) % p = x * (o * o) ^ (l / 2) % p := fun x => by
      rw [Nat.mul_mod, ← Nat.pow_mod, ← Nat.mul_mod]
    rw [e1]
    have e2 : (o * o) ^ (l / 2) = o ^ (2 * (l / 2)) := by rw [Nat.pow_mul, Nat.pow_two]
    rw [e2]
    by_cases c : l % 2 = 1
    · rw [if_pos c, Nat.mod_mul_mod]
      congr 1
      rw [Nat.mul_assoc, ← Nat.pow_succ']
      congr 2
      omega
    · rw [if_neg c]
      congr 2
      congr 1
      omega
theorem toN_lt {p : Nat} (hp : 1 < p) : ∀ (m t o l : Nat), t < p → toN p m t o l < p
  | 0, _, _, _, h => h
  | m + 1, t, o, l, h => toN_lt hp m _ _ _ (by split; exact Nat.mod_lt _ (by omega); exact h)
abbrev toB : En → Out := (sSeq (sIf (dTst (dBin fEq (vT (dBin fMod (vT (dCall (on1 fInt) (vCons (vS 5) vNil))) (vT (dC (.int 2))))) (vT (dC (.int 1))))) (sAsg (dBin fMod (vT (dCall (on1 fInt) (vCons (vT (dBin fMul (vS 3) (vS 4))) vNil))) (vS 2)) (tName 3)) sNext)
  (sSeq (sAsg (dBin fMod (vT (dCall (on1 fInt) (vCons (vT (dBin fMul (vS 4) (vS 4))) vNil))) (vS 2)) (tName 4))
  (sAsg (dBin fDiv (vS 5) (vT (dC (.int 2)))) (tName 5))))
theorem to_step (a n p t o l k t2 : Int) (s6 : Sl) (ds : List D) (R : Out) (h6 : s6.pinned = false) (hp : 0 < p) (st : isSm t = true) (so : isSm o = true) (ht : t2 = if l % 2 = 1 then t * o % p else t)
  (h : sForL (tName 6) toB ds [.p (.d (.int a)), .p (.d (.int n)), .p (.d (.int p)), .v (.d (.int t2)), .v (.d (.int (o * o % p))), .v (.d (.int (l / 2))), .v (.d (.int k))] = R) :
  sForL (tName 6) toB (.int k :: ds) [.p (.d (.int a)), .p (.d (.int n)), .p (.d (.int p)), .v (.d (.int t)), .v (.d (.int o)), .v (.d (.int l)), s6] = R := by
  rw [u2]
  have h2 : (0 : Int) < 2 := by decide
  by_cases c : l % 2 = 1
  · rw [if_pos c] at ht
    subst ht
    simp [h6, c, y15 st, y15 so, y17 hp, y17, y18, h]
  · rw [if_neg c] at ht
    subst ht
    simp [h6, c, y15 st, y15 so, y17 hp, y17, y18, h]
theorem to_loop (a n : Int) (p : Nat) (hp : 1 < p) (hp2 : p ≤ 1000) : ∀ (m k t o l : Nat) (s6 : Sl), t ≤ 1000 → o ≤ 1000 → s6.pinned = false →
    ∃ x4 x5 x6, sForL (tName 6) toB (idx k m) [.p (.d (.int a)), .p (.d (.int n)), .p (.d (.int (p : Int))), .v (.d (.int (t : Int))), .v (.d (.int (o : Int))), .v (.d (.int (l : Int))), s6] = .nx [.p (.d (.int a)), .p (.d (.int n)), .p (.d (.int (p : Int))), .v (.d (.int (toN p m t o l : Nat))), x4, x5, x6]
  | 0, k, t, o, l, s6, _, _, h6 => ⟨_, _, s6, by rw [idx_0]; exact u1⟩
  | m + 1, k, t, o, l, s6, ht, ho, h6 => by
    have l1 : (if l % 2 = 1 then t * o % p else t) ≤ 1000 := by
      split
      · have := Nat.mod_lt (t * o) (show p > 0 by omega); omega
      · exact ht
    have l2 : o * o % p ≤ 1000 := by have := Nat.mod_lt (o * o) (show p > 0 by omega); omega
    obtain ⟨x4, x5, x6, ih⟩ := to_loop a n p hp hp2 m (k + 1) (if l % 2 = 1 then t * o % p else t) (o * o % p) (l / 2) (.v (.d (.int (k : Int)))) l1 l2 rfl
    refine ⟨x4, x5, x6, ?_⟩
    rw [idx_s]
    refine to_step a n (p : Int) (t : Int) (o : Int) (l : Int) (k : Int) (((if l % 2 = 1 then t * o % p else t) : Nat) : Int) s6 _ _ h6 (by omega) (sm_nat (by omega)) (sm_nat (by omega)) ?_ ?_
    · by_cases c : l % 2 = 1
      · rw [if_pos c, if_pos (by omega), Int.natCast_emod, Int.natCast_mul]
      · rw [if_neg c, if_neg (by omega)]
    · rw [Int.natCast_emod (o * o) p, Int.natCast_mul, Int.natCast_ediv] at ih
      exact ih
theorem bTo (B : En → Out) (a n p r : Int) (ix : List D) (x4 x5 x6 : Sl) (hg : gR1 [.d (.int 12)] = some ix) (h : sForL (tName 6) B ix [.p (.d (.int a)), .p (.d (.int n)), .p (.d (.int p)), .v (.d (.int 1)), .v (.d (.int a)), .v (.d (.int n)), .no] = .nx [.p (.d (.int a)), .p (.d (.int n)), .p (.d (.int p)), .v (.d (.int r)), x4, x5, x6]) :
  (sSeq (sAsg (dC (.int 1)) (tName 3)) (sSeq (sAsg (dVar 0) (tName 4)) (sSeq (sAsg (dVar 1) (tName 5)) (sSeq (sFor (iOps (vCons (vT (dC (.int 12))) vNil) gR1) (tName 6) B) (sRet (dMove 3)))))) [.p (.d (.int a)), .p (.d (.int n)), .p (.d (.int p)), .no, .no, .no, .no] = .rt (.d (.int r)) [.p (.d (.int a)), .p (.d (.int n)), .p (.d (.int p)), .no, x4, x5, x6] := by
  simp [hg, h]
theorem v_to (a n p : Nat) (ha : a ≤ 1000) (hn : n < 4096) (hp : 1 < p) (hp2 : p ≤ 1000) : d__law_to [.d (.int (a : Int)), .d (.int (n : Int)), .d (.int (p : Int))] = .ok (.d (.int ((a ^ n % p : Nat) : Int))) [some (.d (.int (a : Int))), some (.d (.int (n : Int))), some (.d (.int (p : Int)))] := by
  obtain ⟨x4, x5, x6, h⟩ := to_loop (a : Int) (n : Int) p hp hp2 12 0 1 a n .no (by omega) ha rfl
  have e : toN p 12 1 a n = a ^ n % p := by
    have := toN_pow (p := p) 12 1 a n hn
    rw [Nat.mod_eq_of_lt (toN_lt hp 12 1 a n hp), Nat.one_mul] at this
    exact this
  rw [e] at h
  show denFn _ _ _ _ = _
  exact den_rt rfl (bTo toB _ _ _ _ (idx 0 12) x4 x5 x6 (gR1_n (m := 12) (by omega)) h) rfl
/-! the base, the row -/
abbrev p1B : En → Out := (sSeq (sAsg (dCallF d__law_to [0, 1, 2] (cCons (gName 3) (cCons (gVal (dBin fDiv (vT (dBin fSub (vS 0) (vT (dC (.int 1))))) (vS 1))) (cCons (gName 0) cNil)))) (tName 2))
  (sIf (dTst (dBin fNe (vS 2) (vT (dC (.int 1))))) (fun e => .bk e) sNext))
theorem p1_step (p q a e x : Int) (s2 s3 s4 s5 : Sl) (ds : List D) (R : Out) (h2 : s2.pinned = false) (h3 : s3.pinned = false) (hd : fDiv (.d (.int (p - 1))) (.d (.int q)) = some (.d (.int e))) (ht : d__law_to [.d (.int a), .d (.int e), .d (.int p)] = .ok (.d (.int x)) [some (.d (.int a)), some (.d (.int e)), some (.d (.int p))])
  (h : (if x = 1 then sForL (tName 3) p1B ds [.p (.d (.int p)), .p (.d (.int q)), .v (.d (.int x)), .v (.d (.int a)), s4, s5] else .nx [.p (.d (.int p)), .p (.d (.int q)), .v (.d (.int x)), .v (.d (.int a)), s4, s5]) = R) :
  sForL (tName 3) p1B (.int a :: ds) [.p (.d (.int p)), .p (.d (.int q)), s2, s3, s4, s5] = R := by
  rw [u2]
  by_cases c : x = 1
  · rw [if_pos c] at h
    subst c
    simp [h2, h3, hd, ht, h]
  · rw [if_neg c] at h
    subst h
    simp [h2, h3, hd, ht, c]
theorem div_pq (p q : Nat) (hp : 1 < p) (hp2 : p ≤ 1000) (hq : 0 < q) (hq2 : q ≤ 1000) : fDiv (.d (.int ((p : Int) - 1))) (.d (.int (q : Int))) = some (.d (.int (((p - 1) / q : Nat) : Int))) := by
  have e : ((p : Int) - 1) / (q : Int) = (((p - 1) / q : Nat) : Int) := by
    rw [Int.natCast_ediv, Int.natCast_sub (by omega)]; rfl
  rw [y18 (by omega) (by omega), e]
theorem p1_loop (p q : Nat) (hp : 1 < p) (hp2 : p ≤ 1000) (hq : 0 < q) (hq2 : q ≤ 1000) (s4 s5 : Sl) : ∀ (f a m : Nat) (s2 s3 : Sl), stepN p ((p - 1) / q) a f ≠ 1 → f ≤ m → a + m ≤ 1000 → s2.pinned = false → s3.pinned = false →
    ∃ t3, sForL (tName 3) p1B (idx a m) [.p (.d (.int (p : Int))), .p (.d (.int (q : Int))), s2, s3, s4, s5] = .nx [.p (.d (.int (p : Int))), .p (.d (.int (q : Int))), .v (.d (.int (stepN p ((p - 1) / q) a f : Nat))), t3, s4, s5]
  | 0, a, m, s2, s3, h, _, _, _, _ => absurd rfl h
  | f + 1, a, 0, s2, s3, _, hm, _, _, _ => by omega
  | f + 1, a, m + 1, s2, s3, h, hm, ha, h2, h3 => by
    have hd := div_pq p q hp hp2 hq hq2
    have hle : (p - 1) / q ≤ p - 1 := Nat.div_le_self _ _
    have ht := v_to a ((p - 1) / q) p (by omega) (by omega) hp hp2
    rw [idx_s]
    unfold stepN at h ⊢
    by_cases c : a ^ ((p - 1) / q) % p = 1
    · rw [if_pos c] at h ⊢
      obtain ⟨t3, ih⟩ := p1_loop p q hp hp2 hq hq2 s4 s5 f (a + 1) m (.v (.d (.int 1))) (.v (.d (.int (a : Int)))) h (by omega) (by omega) rfl rfl
      rw [c] at ht
      exact ⟨t3, p1_step (p : Int) (q : Int) (a : Int) _ 1 s2 s3 s4 s5 _ _ h2 h3 hd ht (by rw [if_pos rfl]; exact ih)⟩
    · rw [if_neg c] at h ⊢
      exact ⟨.v (.d (.int (a : Int))), p1_step (p : Int) (q : Int) (a : Int) _ _ s2 s3 s4 s5 _ _ h2 h3 hd ht (by rw [if_neg (by omega)])⟩
abbrev p2B : En → Out := (sExpr (dMut 4 fAppend (aCons (dBin fMod (vT (dCall (on1 fInt) (vCons (vT (dBin fMul (vT (dBin fIx (vS 4) (vS 5))) (vS 2))) vNil))) (vS 0)) aNil)))
theorem p2_step (p g k y : Int) (s1 s3 s5 : Sl) (os : List O) (ds : List D) (R : Out) (h5 : s5.pinned = false) (hp : 0 < p) (h1 : fIx (.lst os) (.d (.int k)) = some (.d (.int y))) (sy : isSm y = true) (hz : os.length < 1000)
  (h : sForL (tName 5) p2B ds [.p (.d (.int p)), s1, .v (.d (.int g)), s3, .v (.lst (os ++ [.d (.int (y * g % p))])), .v (.d (.int k))] = R) : sForL (tName 5) p2B (.int k :: ds) [.p (.d (.int p)), s1, .v (.d (.int g)), s3, .v (.lst os), s5] = R := by
  have hz2 : os.length < sizeLine := Nat.lt_of_lt_of_le hz (by decide)
  rw [u2]
  simp [h5, h1, y15 sy, y17 hp, fAppend, hz2, h]
theorem nl_app (p g k : Nat) : O.lst ((pwL p g (k + 1)).map (fun (i : Nat) => O.d (.int (i : Int))) ++ [.d (.int (((g ^ k % p : Nat) : Int) * (g : Int) % (p : Int)))]) = nl (pwL p g (k + 1 + 1)) := by
  rw [pwL_s (n := k + 1)]
  unfold nl
  rw [List.map_append]
  have : (((g ^ k % p : Nat) : Int) * (g : Int) % (p : Int)) = ((g ^ (k + 1) % p : Nat) : Int) := by
    rw [Nat.pow_succ, ← Nat.mod_mul_mod]
    rw [Int.natCast_emod (g ^ k % p * g) p, Int.natCast_mul]
  rw [this]
  rfl
theorem p2_loop (p g : Nat) (hp : 1 < p) (hp2 : p ≤ 1000) (s1 s3 : Sl) : ∀ (m k : Nat) (s5 : Sl), k + m ≤ 900 → s5.pinned = false →
    ∃ t5, sForL (tName 5) p2B (idx k m) [.p (.d (.int (p : Int))), s1, .v (.d (.int (g : Int))), s3, .v (nl (pwL p g (k + 1))), s5] = .nx [.p (.d (.int (p : Int))), s1, .v (.d (.int (g : Int))), s3, .v (nl (pwL p g (k + m + 1))), t5]
  | 0, k, s5, _, h5 => ⟨s5, by rw [idx_0]; exact u1⟩
  | m + 1, k, s5, hk, h5 => by
    obtain ⟨t5, ih⟩ := p2_loop p g hp hp2 s1 s3 m (k + 1) (.v (.d (.int (k : Int)))) (by omega) rfl
    refine ⟨t5, ?_⟩
    rw [idx_s]
    have hlt : g ^ k % p < p := Nat.mod_lt _ (by omega)
    refine p2_step (p : Int) (g : Int) (k : Int) _ s1 s3 s5 _ _ _ h5 (by omega) (ix_nl (pwL_get (p := p) (g := g) (n := k + 1) (i := k) (by omega))) (sm_nat (by omega)) (by rw [List.length_map, pwL_len]; omega) ?_
    rw [nl_app]
    rw [show k + (m + 1) + 1 = k + 1 + m + 1 by omega]
    exact ih
theorem bLp (B1 B2 : En → Out) (p q g x : Int) (ix ix2 : List D) (t3 t5 : Sl) (L : O) (hg : gR2 [.d (.int 2), .d (.int p)] = some ix) (h1 : sForL (tName 3) B1 ix [.p (.d (.int p)), .p (.d (.int q)), .v (.d (.int 1)), .no, .no, .no] = .nx [.p (.d (.int p)), .p (.d (.int q)), .v (.d (.int g)), t3, .no, .no])
  (hg2 : gR1 [.d (.int (q - 1))] = some ix2) (h2 : sForL (tName 5) B2 ix2 [.p (.d (.int p)), .p (.d (.int q)), .v (.d (.int g)), t3, .v (.lst [.d (.int 1)]), .no] = .nx [.p (.d (.int p)), .p (.d (.int q)), .v (.d (.int g)), t3, .v L, t5]) :
  (sSeq (sAsg (dC (.int 1)) (tName 2)) (sSeq (sFor (iOps (vCons (vT (dC (.int 2))) (vCons (vS 0) vNil)) gR2) (tName 3) B1) (sSeq (sAsg (dLst (aCons (dC (.int 1)) aNil)) (tName 4)) (sSeq (sFor (iOps (vCons (vT (dBin fSub (vS 1) (vT (dC (.int 1))))) vNil) gR1) (tName 5) B2) (sRet (dMove 4)))))) [.p (.d (.int p)), .p (.d (.int q)), .no, .no, .no, .no] = .rt L [.p (.d (.int p)), .p (.d (.int q)), .v (.d (.int g)), t3, .no, t5] := by
  have z1 : (1 : Nat) ≤ sizeLine := by decide
  simp [hg, h1, hg2, h2, z1]
theorem v_lpow (p q : Nat) (hp : 1 < p) (hp2 : p ≤ 1000) (hq : 0 < q) (hq2 : q ≤ 127) (hg : stP p q ≠ 1) : d__law_powers [.d (.int (p : Int)), .d (.int (q : Int))] = .ok (nl (pwL p (stP p q) q)) [some (.d (.int (p : Int))), some (.d (.int (q : Int)))] := by
  obtain ⟨t3, h1⟩ := p1_loop p q hp hp2 hq (by omega) .no .no (fuelP p) 2 (p - 2) (.v (.d (.int 1))) .no hg (by unfold fuelP; omega) (by omega) rfl rfl
  obtain ⟨t5, h2⟩ := p2_loop p (stP p q) hp hp2 (.p (.d (.int (q : Int)))) t3 (q - 1) 0 .no (by omega) rfl
  have e1 : nl (pwL p (stP p q) (0 + 1)) = .lst [.d (.int 1)] := by
    show O.lst [.d (.int ((stP p q ^ 0 % p : Nat) : Int))] = _
    rw [Nat.pow_zero, Nat.mod_eq_of_lt hp]; rfl
  rw [e1, show 0 + (q - 1) + 1 = q by omega] at h2
  have hg1 : gR1 [.d (.int ((q : Int) - 1))] = some (idx 0 (q - 1)) := by
    have := gR1_n (m := q - 1) (by omega)
    rw [show ((q - 1 : Nat) : Int) = (q : Int) - 1 by omega] at this
    exact this
  show denFn _ _ _ _ = _
  exact den_rt rfl (bLp p1B p2B _ _ _ 0 _ _ t3 t5 _ (gR2_n (a := 2) (b := p) (by omega) (by omega)) h1 hg1 h2) rfl
end K05

namespace K05
open PySem L2 MX
/-! ### the members, by trying -/
def membN (p q : Nat) : Nat → Nat → List Nat
  | 0, _ => []
  | n + 1, x => if x ^ q % p = 1 then x :: membN p q n (x + 1) else membN p q n (x + 1)
theorem lc_step (vs : List Nat) (t : Tg) (c : En → Rs Bool) (el : En → Rs O) (d : D) (ds : List D) (acc : List O) (e e1 e2 e3 e4 : En) (o : O) (R : Rs O) (h1 : t (.d d) e = some e1) (h2 : c e1 = .ok true e2) (h3 : el e2 = .ok o e3) (hz : acc.length < 2000) (hw : wipeE e3 vs = e4)
  (h : lcL vs t c el ds (acc ++ [o]) e4 = R) : lcL vs t c el (d :: ds) acc e = R := by
  have hz2 : acc.length < sizeLine := Nat.lt_of_lt_of_le hz (by decide)
  unfold lcL
  simp only [h1, h2, h3, if_pos hz2, hw, h]
theorem lc_skip (vs : List Nat) (t : Tg) (c : En → Rs Bool) (el : En → Rs O) (d : D) (ds : List D) (acc : List O) (e e1 e2 e4 : En) (R : Rs O) (h1 : t (.d d) e = some e1) (h2 : c e1 = .ok false e2) (hw : wipeE e2 vs = e4)
  (h : lcL vs t c el ds acc e4 = R) : lcL vs t c el (d :: ds) acc e = R := by
  unfold lcL
  simp only [h1, h2, hw, h]
abbrev meC : En → Rs Bool := (dTst (dBin fEq (vT (dCallF d__law_to [0, 1, 2] (cCons (gName 2) (cCons (gName 1) (cCons (gName 0) cNil))))) (vT (dC (.int 1)))))
theorem me_c (p q x r : Int) (h : d__law_to [.d (.int x), .d (.int q), .d (.int p)] = .ok (.d (.int r)) [some (.d (.int x)), some (.d (.int q)), some (.d (.int p))]) :
  meC [.p (.d (.int p)), .p (.d (.int q)), .v (.d (.int x))] = .ok (decide (r = 1)) [.p (.d (.int p)), .p (.d (.int q)), .v (.d (.int x))] := by
  simp [h]
theorem me_lc (p q : Nat) (hp : 1 < p) (hp2 : p ≤ 1000) (hq : q ≤ 127) : ∀ (m a : Nat) (acc : List Nat), a + m ≤ 1001 → acc.length + m ≤ 1001 →
    lcL [2] (tName 2) meC (dVar 2) (idx a m) (acc.map fun (i : Nat) => O.d (.int (i : Int))) [.p (.d (.int (p : Int))), .p (.d (.int (q : Int))), .no] = .ok (nl (acc ++ membN p q m a)) [.p (.d (.int (p : Int))), .p (.d (.int (q : Int))), .no]
  | 0, a, acc, _, _ => by
    show Rs.ok _ _ = _
    show Rs.ok (O.lst (acc.map fun (i : Nat) => O.d (.int (i : Int)))) _ = Rs.ok (nl (acc ++ [])) _
    rw [List.append_nil]; rfl
  | m + 1, a, acc, ha, hz => by
    rw [idx_s]
    have c := me_c (p : Int) (q : Int) (a : Int) _ (v_to a q p (by omega) (by omega) hp hp2)
    have t : tName 2 (.d (.int (a : Int))) [.p (.d (.int (p : Int))), .p (.d (.int (q : Int))), .no] = some [.p (.d (.int (p : Int))), .p (.d (.int (q : Int))), .v (.d (.int (a : Int)))] := by simp
    have v : dVar 2 [.p (.d (.int (p : Int))), .p (.d (.int (q : Int))), .v (.d (.int (a : Int)))] = .ok (.d (.int (a : Int))) [.p (.d (.int (p : Int))), .p (.d (.int (q : Int))), .v (.d (.int (a : Int)))] := by simp
    unfold membN
    by_cases h : a ^ q % p = 1
    · rw [if_pos h]
      rw [show decide (((a ^ q % p : Nat) : Int) = 1) = true from decide_eq_true (by omega)] at c
      have ih := me_lc p q hp hp2 hq m (a + 1) (acc ++ [a]) (by omega) (by rw [List.length_append, List.length_singleton]; omega)
      refine lc_step _ _ _ _ _ _ _ _ _ _ _ _ _ _ t c v (by rw [List.length_map]; omega) rfl ?_
      rw [List.map_append, List.append_assoc] at ih
      exact ih
    · rw [if_neg h]
      rw [show decide (((a ^ q % p : Nat) : Int) = 1) = false from decide_eq_false (by omega)] at c
      have ih := me_lc p q hp hp2 hq m (a + 1) acc (by omega) (by omega)
      exact lc_skip _ _ _ _ _ _ _ _ _ _ _ _ t c rfl ih
theorem bMe (p q : Int) (ix : List D) (L : O) (t : D) (t1 : Tg) (c : En → Rs Bool) (el : En → Rs O) (hg : gR2 [.d (.int 1), .d (.int p)] = some ix) (h : lcL [2] t1 c el ix [] [.p (.d (.int p)), .p (.d (.int q)), .no] = .ok L [.p (.d (.int p)), .p (.d (.int q)), .no]) (h2 : on1 fTuple [L] = some (.d t)) :
  (sRet (dCall (on1 fTuple) (vCons (vT (dLc (iOps (vCons (vT (dC (.int 1))) (vCons (vS 0) vNil)) gR2) [2] t1 c el)) vNil))) [.p (.d (.int p)), .p (.d (.int q)), .no] = .rt (.d t) [.p (.d (.int p)), .p (.d (.int q)), .no] := by
  have w1 : wipeE [.p (.d (.int p)), .p (.d (.int q)), .no] [2] = [.p (.d (.int p)), .p (.d (.int q)), .no] := rfl
  simp [hg, w1, h, h2]
theorem v_memb (p q : Nat) (hp : 1 < p) (hp2 : p ≤ 1000) (hq : q ≤ 127) : d__law_members [.d (.int (p : Int)), .d (.int (q : Int))] = .ok (.d (.tup ((membN p q (p - 1) 1).map di))) [some (.d (.int (p : Int))), some (.d (.int (q : Int)))] := by
  have h := me_lc p q hp hp2 hq (p - 1) 1 [] (by omega) (by show 0 + _ ≤ _; omega)
  rw [List.nil_append] at h
  show denFn _ _ _ _ = _
  exact den_rt rfl (bMe _ _ (idx 1 (p - 1)) _ _ (tName 2) meC (dVar 2) (gR2_n (a := 1) (b := p) (by omega) (by omega)) h (tup_nl _)) rfl
/-! ### what the pairs have -/
theorem mem_membN {p q : Nat} : ∀ {n a x : Nat}, x ∈ membN p q n a ↔ a ≤ x ∧ x < a + n ∧ x ^ q % p = 1
  | 0, a, x => by
    unfold membN
    constructor
    · intro h; cases h
    · intro h; omega
  | n + 1, a, x => by
    unfold membN
    by_cases c : a ^ q % p = 1
    · rw [if_pos c, List.mem_cons, mem_membN]
      constructor
      · rintro (h | h)
        · subst h; exact ⟨Nat.le_refl _, by omega, c⟩
        · exact ⟨by omega, by omega, h.2.2⟩
      · intro h
        by_cases e : x = a
        · exact .inl e
        · exact .inr ⟨by omega, by omega, h.2.2⟩
    · rw [if_neg c, mem_membN]
      constructor
      · intro h; exact ⟨by omega, by omega, h.2.2⟩
      · intro h
        refine ⟨?_, by omega, h.2.2⟩
        by_cases e : x = a
        · subst e; exact absurd h.2.2 c
        · omega
theorem nd_membN {p q : Nat} : ∀ {n a : Nat}, (membN p q n a).Nodup
  | 0, a => by unfold membN; exact List.nodup_nil
  | n + 1, a => by
    unfold membN
    split
    · refine List.nodup_cons.mpr ⟨fun h => ?_, nd_membN⟩
      have := mem_membN.mp h
      omega
    · exact nd_membN
theorem inss_perm (x : Nat) : ∀ l : List Nat, (inss x l).Perm (x :: l)
  | [] => List.Perm.refl _
  | y :: l => by
    show (if x ≤ y then x :: y :: l else y :: inss x l).Perm _
    split
    · exact List.Perm.refl _
    · exact ((inss_perm x l).cons y).trans (List.Perm.swap _ _ _)
theorem srt_perm : ∀ l : List Nat, (srt l).Perm l
  | [] => List.Perm.refl _
  | x :: l => (inss_perm x (srt l)).trans ((srt_perm l).cons x)
def chk (p q : Nat) : Bool := decide (stP p q ≠ 1) && decide (srt (pwL p (stP p q) q) = membN p q (p - 1) 1)
/-- a pair that is checked -/
structure GP (p q : Nat) : Prop where
  ok : OkPair p q
  st : stP p q ≠ 1
  mb : srt (pwL p (stP p q) q) = membN p q (p - 1) 1
theorem GP.p1 {p q : Nat} (h : GP p q) : 1 < p := by
  have h2 := h.ok.2.1
  have : ¬ ((p : Int) < 2) := fun z => by unfold isPrI at h2; rw [if_pos z] at h2; cases h2
  omega
theorem GP.nd {p q : Nat} (h : GP p q) : (pwL p (stP p q) q).Nodup := (srt_perm _).nodup_iff.mp (by rw [h.mb]; exact nd_membN)
theorem GP.in_ {p q x : Nat} (h : GP p q) : x ∈ pwL p (stP p q) q ↔ x ∈ membN p q (p - 1) 1 := by rw [← h.mb]; exact (srt_perm _).mem_iff.symm
theorem GP.gq {p q : Nat} (h : GP p q) : stP p q ^ q % p = 1 := by
  have h3 : 3 ≤ q := by have := h.ok.2.2.1; omega
  have hlt : stP p q < p := stepN_lt h.p1 _ _
  have : stP p q ∈ pwL p (stP p q) q := by
    have := pwL_get (p := p) (g := stP p q) (n := q) (i := 1) (by omega)
    rw [Nat.pow_one, Nat.mod_eq_of_lt hlt] at this
    exact List.mem_of_getElem? this
  exact (mem_membN.mp (h.in_.mp this)).2.2
theorem GP.len {p q : Nat} (h : GP p q) : (membN p q (p - 1) 1).length = q := by rw [← h.mb, (srt_perm _).length_eq, pwL_len]
end K05

namespace K05
open PySem L2 MX
def allOk : Bool := (List.range 128).all fun q => !(decide (3 ≤ q) && isPrI (q : Int)) || (List.range (999 / q + 1)).all fun k => !(isPrI ((1 + q * k : Nat) : Int)) || chk (1 + q * k) q
theorem allOk_true : allOk = true := by decide +kernel
end K05

namespace K05
open PySem L2 MX
theorem gp_of {p q : Nat} (h : OkPair p q) : GP p q := by
  obtain ⟨h1, h2, h3, h4, h5, h6⟩ := h
  have hp1 : 1 < p := by
    have : ¬ ((p : Int) < 2) := fun z => by unfold isPrI at h2; rw [if_pos z] at h2; cases h2
    omega
  have hm : (p - 1) % q = 0 := by
    have : (((p - 1) % q : Nat) : Int) = 0 := by
      rw [Int.natCast_emod, Int.natCast_sub (by omega)]; exact h6
    omega
  have hk : p = 1 + q * ((p - 1) / q) := by
    have := Nat.div_add_mod (p - 1) q
    omega
  have hk2 : (p - 1) / q ≤ 999 / q := Nat.div_le_div_right (by omega)
  have a := allOk_true
  unfold allOk at a
  have b := List.all_eq_true.mp a q (List.mem_range.mpr (by omega))
  rw [h5, decide_eq_true (show 3 ≤ q by omega)] at b
  have c := List.all_eq_true.mp (show ((List.range (999 / q + 1)).all fun k => !(isPrI ((1 + q * k : Nat) : Int)) || chk (1 + q * k) q) = true from by simpa using b) ((p - 1) / q) (List.mem_range.mpr (by omega))
  rw [← hk, h2] at c
  have d : chk p q = true := by simpa using c
  unfold chk at d
  rw [Bool.and_eq_true] at d
  exact ⟨⟨h1, h2, h3, h4, h5, h6⟩, of_decide_eq_true d.1, of_decide_eq_true d.2⟩
/-! ### the group of a pair -/
def pl (p q : Nat) : List Nat := pwL p (stP p q) q
def ml (p q : Nat) : List Nat := membN p q (p - 1) 1
def Gp (p q : Nat) : D := Gd p (pl p q) (ml p q)
theorem v_new {p q : Nat} (h : GP p q) : d_PowerGroup___init__ [newG, .d (.int (p : Int)), .d (.int (q : Int))] = .ok (.d .non) [some (G6 p (pl p q) (ml p q)), some (.d (.int (p : Int))), some (.d (.int (q : Int)))] := by
  have := v_init p q h.ok h.st h.nd
  rw [h.mb] at this
  exact this
theorem pl_get {p q i : Nat} (h : i < q) : (pl p q)[i]? = some (stP p q ^ i % p) := pwL_get h
theorem pl_len {p q : Nat} : (pl p q).length = q := pwL_len
theorem pl_nd {p q : Nat} (h : GP p q) : (pl p q).Nodup := h.nd
def el (p q i : Nat) : Nat := stP p q ^ i % p
theorem el_lt {p q i : Nat} (h : GP p q) : el p q i < p := Nat.mod_lt _ (by have := h.p1; omega)
theorem GP.p1000 {p q : Nat} (h : GP p q) : p ≤ 1000 := by have := h.ok.1; omega
theorem GP.q3 {p q : Nat} (h : GP p q) : 3 ≤ q := by have := h.ok.2.2.1; omega
theorem GP.q127 {p q : Nat} (h : GP p q) : q ≤ 127 := by have := h.ok.2.2.2.1; omega
/-- the place of the inverse -/
def iv (q i : Nat) : Nat := (q - i) % q
theorem iv_lt {q i : Nat} (h : 0 < q) : iv q i < q := Nat.mod_lt _ h
theorem iv_iv {q i : Nat} (h : i < q) : iv q (iv q i) = i := by
  unfold iv
  by_cases c : i = 0
  · subst c; rw [Nat.sub_zero, Nat.mod_self, Nat.sub_zero, Nat.mod_self]
  · rw [Nat.mod_eq_of_lt (show q - i < q by omega), Nat.mod_eq_of_lt (by omega)]; omega
theorem iv_int {q i : Nat} (h : i < q) : (i : Int) * -1 % (q : Int) = ((iv q i : Nat) : Int) := by
  unfold iv
  by_cases c : i = 0
  · subst c
    rw [Nat.sub_zero, Nat.mod_self]
    simp
  · rw [Nat.mod_eq_of_lt (show q - i < q by omega)]
    have e : (i : Int) * -1 = ((q - i : Nat) : Int) + (q : Int) * (-1) := by omega
    rw [e, Int.add_mul_emod_self_left]
    exact Int.emod_eq_of_lt (by omega) (by omega)
theorem v_inv {p q i : Nat} (h : GP p q) (hi : i < q) : d_Group_inverse_of [.d (Gp p q), .d (.int (el p q i : Int))] = .ok (.d (.int (el p q (iv q i) : Int))) [some (.d (Gp p q)), some (.d (.int (el p q i : Int)))] := by
  have hq := h.q127
  have hq3 := h.q3
  refine bInv _ _ _ (c_pow p (pl p q) (ml p q)) ?_
  refine bPow (Gp p q) (.tup ((pl p q).map di)) (.dic ((pl p q).map ky) ((List.range' 0 (pl p q).length).map di)) ((pl p q).length : Int) (el p q i : Int) (-1) (i : Int) _ rfl rfl rfl (ix_exp (pl p q) (pl_nd h) (pl_get hi)) (sm_nat (by omega)) (by rw [pl_len]; omega) ?_
  rw [pl_len, iv_int hi]
  exact ixT_di (pl_get (iv_lt (by omega)))
theorem inv_mul {p q i : Nat} (h : GP p q) (hi : i < q) : (el p q i : Int) * (el p q (iv q i) : Int) % (p : Int) = 1 := by
  have hp := h.p1
  have e : el p q i * el p q (iv q i) % p = 1 := by
    unfold el
    rw [← Nat.mul_mod, ← Nat.pow_add]
    unfold iv
    by_cases c : i = 0
    · subst c
      rw [Nat.sub_zero, Nat.mod_self, Nat.add_zero, Nat.pow_zero]
      exact Nat.mod_eq_of_lt hp
    · rw [Nat.mod_eq_of_lt (show q - i < q by omega), show i + (q - i) = q by omega]
      exact h.gq
  have : ((el p q i * el p q (iv q i) % p : Nat) : Int) = 1 := by rw [e]; rfl
  rw [Int.natCast_emod, Int.natCast_mul] at this
  exact this
theorem v_mul {p q : Nat} (a : Nat) (b : Int) (h : GP p q) (ha : a < p) : d_PowerGroup_multiply [.d (Gp p q), .d (.int (a : Int)), .d (.int b)] = .ok (.d (.int ((a : Int) * b % (p : Int)))) [some (.d (Gp p q)), some (.d (.int (a : Int))), some (.d (.int b))] := by
  have := h.p1000
  have := h.p1
  exact bMul _ _ _ _ rfl (sm_nat (by omega)) (by omega)
theorem memI_eq {p q : Nat} (h : GP p q) (v : Int) : memI v (pl p q) = memI v (ml p q) := by
  unfold memI
  congr 1
  refine propext ?_
  constructor
  · intro z
    obtain ⟨x, hx, e⟩ := List.mem_map.mp z
    exact List.mem_map.mpr ⟨x, h.in_.mp hx, e⟩
  · intro z
    obtain ⟨x, hx, e⟩ := List.mem_map.mp z
    exact List.mem_map.mpr ⟨x, h.in_.mpr hx, e⟩
theorem v_has {p q : Nat} (h : GP p q) (v : Int) : d_Group_has [.d (Gp p q), .d (.int v)] = .ok (.d (.bl (memI v (ml p q)))) [some (.d (Gp p q)), some (.d (.int v))] := by
  refine bHas1 (Gp p q) (.dic ((pl p q).map ky) ((List.range' 0 (pl p q).length).map di)) v _ rfl ?_
  rw [in_exp, memI_eq h]
theorem memI_nat {l : List Nat} {x : Nat} (h : x ∈ l) : memI (x : Int) l = true := decide_eq_true (List.mem_map.mpr ⟨x, h, rfl⟩)
theorem ml_of {p q k : Nat} (h : GP p q) (hk : k < q) : ∃ i, i < q ∧ (ml p q)[k]? = some (el p q i) ∧ el p q i ∈ ml p q := by
  have hl : (ml p q).length = q := h.len
  have hm : (ml p q)[k] ∈ ml p q := List.getElem_mem (by omega)
  have h2 : (ml p q)[k] ∈ pl p q := h.in_.mpr hm
  obtain ⟨i, hi, e⟩ := List.getElem_of_mem h2
  rw [pl_len] at hi
  have e2 := pl_get (p := p) (q := q) hi
  rw [List.getElem?_eq_getElem (by rw [pl_len]; exact hi), e] at e2
  have e3 : (ml p q)[k] = el p q i := Option.some.inj e2
  refine ⟨i, hi, ?_, ?_⟩
  · rw [List.getElem?_eq_getElem (by omega), e3]
  · rw [← e3]; exact hm
theorem el_ml {p q i : Nat} (h : GP p q) (hi : i < q) : el p q i ∈ ml p q := h.in_.mp (List.mem_of_getElem? (pl_get hi))
end K05

namespace K05
open PySem L2 MX
/-! ### right: the stages -/
section
variable {s0 s1 s2 s3 s4 s5 s6 s7 s8 s9 s10 s11 s12 s13 s14 : Sl} {o o1 o2 : List O} {p q : Int} {G M t : D}
theorem mk1 (i : Sl) (g6 : O) (G : D) (hG : g6.fz = G) (h3 : s3.pinned = false) (h : d_PowerGroup___init__ [newG, .d (.int p), .d (.int q)] = .ok (.d .non) [some g6, some (.d (.int p)), some (.d (.int q))]) :
  (sAsg (dFz (dMake "PowerGroup" d_PowerGroup___init__ [1, 2] (cCons (gName 2) (cCons (gName 1) cNil)))) (tName 3)) [s0, .v (.d (.int q)), .v (.d (.int p)), s3, s4, s5, s6, s7, s8, s9, s10, s11, s12, s13, s14] = .nx [s0, .v (.d (.int q)), .v (.d (.int p)), .v (.d G), s4, s5, s6, s7, s8, s9, s10, s11, s12, s13, s14] := by
  subst hG
  simp [dMake, mkR, ord, h, h3]
theorem mk2 (g6 : O) (G : D) (hG : g6.fz = G) (h4 : s4.pinned = false) (h : d_PowerGroup___init__ [newG, .d (.int p), .d (.int q)] = .ok (.d .non) [some g6, some (.d (.int p)), some (.d (.int q))]) :
  (sAsg (dFz (dMake "PowerGroup" d_PowerGroup___init__ [2, 1] (cCons (gName 1) (cCons (gName 2) cNil)))) (tName 4)) [s0, .v (.d (.int q)), .v (.d (.int p)), s3, s4, s5, s6, s7, s8, s9, s10, s11, s12, s13, s14] = .nx [s0, .v (.d (.int q)), .v (.d (.int p)), s3, .v (.d G), s5, s6, s7, s8, s9, s10, s11, s12, s13, s14] := by
  subst hG
  simp [dMake, mkR, ord, h, h4]
theorem mk5 (L : O) (h5 : s5.pinned = false) (h : d__law_powers [.d (.int p), .d (.int q)] = .ok L [some (.d (.int p)), some (.d (.int q))]) :
  (sAsg (dCallF d__law_powers [0, 1] (cCons (gName 2) (cCons (gName 1) cNil))) (tName 5)) [s0, .v (.d (.int q)), .v (.d (.int p)), s3, s4, s5, s6, s7, s8, s9, s10, s11, s12, s13, s14] = .nx [s0, .v (.d (.int q)), .v (.d (.int p)), s3, s4, .v L, s6, s7, s8, s9, s10, s11, s12, s13, s14] := by
  simp [h, h5]
abbrev R6 : En → Out := (sIf (dNotT (dTst (dCallF (d__law_alike 8) [0, 1] (cCons (gVal (dTup (aCons (dUn (fFld cs_ "modulus") (vS 4)) (aCons (dUn (fFld cs_ "order") (vS 4)) (aCons (dUn (fFld cs_ "members") (vS 4)) aNil))))) (cCons (gVal (dTup (aCons (dVar 2) (aCons (dVar 1) (aCons (dUn (fFld cs_ "members") (vS 3)) aNil))))) cNil))))) (sRet (dC (.bl false))) sNext)
theorem r6 (h1 : fFld cs_ "modulus" (.d G) = some (.d (.int p))) (h2 : fFld cs_ "order" (.d G) = some (.d (.int q))) (h3 : fFld cs_ "members" (.d G) = some (.d M)) (ha : AlikeK 8 (.tup [.int p, .int q, M])) :
  R6 [s0, .v (.d (.int q)), .v (.d (.int p)), .v (.d G), .v (.d G), s5, s6, s7, s8, s9, s10, s11, s12, s13, s14] = .nx [s0, .v (.d (.int q)), .v (.d (.int p)), .v (.d G), .v (.d G), s5, s6, s7, s8, s9, s10, s11, s12, s13, s14] := by
  unfold AlikeK at ha
  have z3 : (3 : Nat) ≤ sizeLine := by decide
  have z2 : (2 : Nat) ≤ sizeLine := by decide
  simp [h1, h2, h3, ha, z3, z2]
abbrev R7 : En → Out := (sIf (dOrT (dNotT (dTst (dCall (on2 (fIsC sub_i)) (vCons (vS 3) (vCons (vT (dC (.cls "Group"))) vNil))))) (dNotT (dTst (dCallF (d__law_alike 8) [0, 1] (cCons (gVal (dTup (aCons (dUn (fFld cs_ "modulus") (vS 3)) (aCons (dUn (fFld cs_ "order") (vS 3)) (aCons (dUn (fFld cs_ "unit") (vS 3)) aNil))))) (cCons (gVal (dTup (aCons (dVar 2) (aCons (dVar 1) (aCons (dC (.int 1)) aNil))))) cNil)))))) (sRet (dC (.bl false))) sNext)
theorem r7 (h0 : on2 (fIsC sub_i) [.d G, .d (.cls "Group")] = some (.d (.bl true))) (h1 : fFld cs_ "modulus" (.d G) = some (.d (.int p))) (h2 : fFld cs_ "order" (.d G) = some (.d (.int q))) (h3 : fFld cs_ "unit" (.d G) = some (.d (.int 1))) (ha : AlikeK 8 (.tup [.int p, .int q, .int 1])) :
  R7 [s0, .v (.d (.int q)), .v (.d (.int p)), .v (.d G), s4, s5, s6, s7, s8, s9, s10, s11, s12, s13, s14] = .nx [s0, .v (.d (.int q)), .v (.d (.int p)), .v (.d G), s4, s5, s6, s7, s8, s9, s10, s11, s12, s13, s14] := by
  unfold AlikeK at ha
  have z3 : (3 : Nat) ≤ sizeLine := by decide
  simp [h0, h1, h2, h3, ha, z3]
theorem mk8 (h6 : s6.pinned = false) (h : d__law_members [.d (.int p), .d (.int q)] = .ok (.d M) [some (.d (.int p)), some (.d (.int q))]) :
  (sAsg (dCallF d__law_members [0, 1] (cCons (gName 2) (cCons (gName 1) cNil))) (tName 6)) [s0, .v (.d (.int q)), .v (.d (.int p)), s3, s4, s5, s6, s7, s8, s9, s10, s11, s12, s13, s14] = .nx [s0, .v (.d (.int q)), .v (.d (.int p)), s3, s4, s5, .v (.d M), s7, s8, s9, s10, s11, s12, s13, s14] := by
  simp [h, h6]
abbrev inE : En → Rs O := (dBin fInU (vS 14) (vS 5))
theorem in_lc (L : O) : ∀ (ds : List D) (acc : List O), (∀ d ∈ ds, fInU (.d d) L = some (.d (.bl true))) → acc.length + ds.length ≤ 1000 →
    lcL [14] (tName 14) dYes inE ds acc [s0, s1, s2, s3, s4, .v L, s6, s7, s8, s9, s10, s11, s12, s13, .no] = .ok (.lst (acc ++ List.replicate ds.length (.d (.bl true)))) [s0, s1, s2, s3, s4, .v L, s6, s7, s8, s9, s10, s11, s12, s13, .no]
  | [], acc, _, _ => by
    show Rs.ok _ _ = _
    simp
  | d :: ds, acc, h, hz => by
    rw [List.length_cons] at hz
    have e := h d List.mem_cons_self
    have ih := in_lc L ds (acc ++ [.d (.bl true)]) (fun x hx => h x (List.mem_cons_of_mem _ hx)) (by rw [List.length_append, List.length_singleton]; omega)
    have t : tName 14 (.d d) [s0, s1, s2, s3, s4, .v L, s6, s7, s8, s9, s10, s11, s12, s13, .no] = some [s0, s1, s2, s3, s4, .v L, s6, s7, s8, s9, s10, s11, s12, s13, .v (.d d)] := by simp
    have v : inE [s0, s1, s2, s3, s4, .v L, s6, s7, s8, s9, s10, s11, s12, s13, .v (.d d)] = .ok (.d (.bl true)) [s0, s1, s2, s3, s4, .v L, s6, s7, s8, s9, s10, s11, s12, s13, .v (.d d)] := by simp [e]
    refine lc_step _ _ _ _ _ _ _ _ _ _ _ _ _ _ t rfl v (by omega) rfl ?_
    refine Eq.trans ih ?_
    rw [List.append_assoc]
    rfl
theorem boolsD_rep : ∀ n : Nat, boolsD (List.replicate n (.bl true)) = some (List.replicate n true)
  | 0 => rfl
  | n + 1 => by
    show (boolsD (List.replicate n (.bl true))).map (true :: ·) = _
    rw [boolsD_rep n]; rfl
theorem all_rep (n : Nat) : on1 fAll [.lst (List.replicate n (.d (.bl true)))] = some (.d (.bl true)) := by
  have e : (O.lst (List.replicate n (.d (.bl true)))).ls = some (List.replicate n (.bl true)) := by
    have := leafs_map (List.replicate n (D.bl true))
    rw [List.map_replicate] at this
    exact this
  show fAll _ = _
  unfold fAll
  rw [e]
  show (boolsD (List.replicate n (.bl true))).map _ = _
  rw [boolsD_rep]
  have : (List.replicate n true).all id = true := by simp
  show some (O.d (.bl ((List.replicate n true).all id))) = _
  rw [this]
theorem r9 (t1 : Tg) (c1 : En → Rs Bool) (ee : En → Rs O) (ds : List D) (L A : O) (h3 : fFld cs_ "members" (.d G) = some (.d (.tup ds))) (ha : AlikeK 8 (.tup ds)) (hl : fLenU [.d (.tup ds)] = some (.d (.int q)))
  (hlc : lcL [14] t1 c1 ee ds [] [s0, .v (.d (.int q)), s2, .v (.d G), s4, .v L, .v (.d (.tup ds)), s7, s8, s9, s10, s11, s12, s13, .no] = .ok A [s0, .v (.d (.int q)), s2, .v (.d G), s4, .v L, .v (.d (.tup ds)), s7, s8, s9, s10, s11, s12, s13, .no]) (hall : on1 fAll [A] = some (.d (.bl true))) :
  (sIf (dOrT (dNotT (dTst (dCallF (d__law_alike 8) [0, 1] (cCons (gVal (dUn (fFld cs_ "members") (vS 3))) (cCons (gName 6) cNil))))) (dOrT (dTst (dBin fNe (vT (dCall fLenU (vCons (vS 6) vNil))) (vS 1))) (dNotT (dTst (dCall (on1 fAll) (vCons (vT (dLc (iAny (dVar 6)) [14] t1 c1 ee)) vNil)))))) (sRet (dC (.bl false))) sNext)
   [s0, .v (.d (.int q)), s2, .v (.d G), s4, .v L, .v (.d (.tup ds)), s7, s8, s9, s10, s11, s12, s13, .no] = .nx [s0, .v (.d (.int q)), s2, .v (.d G), s4, .v L, .v (.d (.tup ds)), s7, s8, s9, s10, s11, s12, s13, .no] := by
  unfold AlikeK at ha
  have w1 : wipeE [s0, .v (.d (.int q)), s2, .v (.d G), s4, .v L, .v (.d (.tup ds)), s7, s8, s9, s10, s11, s12, s13, .no] [14] = [s0, .v (.d (.int q)), s2, .v (.d G), s4, .v L, .v (.d (.tup ds)), s7, s8, s9, s10, s11, s12, s13, .no] := rfl
  simp [h3, ha, hl, w1, hlc, hall, -y13]
abbrev tnB : En → Out := (sSeq (sAsg (dBin fIx (vS 6) (vT (dCallF d__law_draw [0, 1] (cCons (gName 0) (cCons (gName 1) cNil))))) (tName 8))
  (sSeq (sAsg (dBin fIx (vS 6) (vT (dCallF d__law_draw [0, 1] (cCons (gName 0) (cCons (gName 1) cNil))))) (tName 9))
  (sSeq (sIf (dNotT (dTst (dCallF (d__law_alike 8) [0, 1] (cCons (gVal (dTup (aCons (dMth "multiply" tab_multiply [0, 1, 2] (gName 3) (cCons (gName 8) (cCons (gName 9) cNil))) (aCons (dMth "multiply" tab_multiply [0, 2, 1] (gName 3) (cCons (gName 8) (cCons (gName 9) cNil))) aNil)))) (cCons (gVal (dTup (aCons (dBin fMod (vT (dCall (on1 fInt) (vCons (vT (dBin fMul (vS 8) (vS 9))) vNil))) (vS 2)) (aCons (dBin fMod (vT (dCall (on1 fInt) (vCons (vT (dBin fMul (vS 8) (vS 9))) vNil))) (vS 2)) aNil)))) cNil))))) (sRet (dC (.bl false))) sNext)
  (sSeq (sAsg (dMth "inverse_of" tab_inverse_of [0, 1] (gName 3) (cCons (gName 8) cNil)) (tName 10))
  (sSeq (sIf (dOrT (dNotT (dTst (dCallF (d__law_alike 8) [0, 1] (cCons (gVal (dBin fInU (vS 10) (vS 6))) (cCons (gVal (dC (.bl true))) cNil))))) (dNotT (dTst (dCallF (d__law_alike 8) [0, 1] (cCons (gVal (dMth "multiply" tab_multiply [0, 1, 2] (gName 3) (cCons (gName 8) (cCons (gName 10) cNil)))) (cCons (gVal (dC (.int 1))) cNil)))))) (sRet (dC (.bl false))) sNext)
  (sIf (dOrT (dNotT (dTst (dCallF (d__law_alike 8) [0, 1] (cCons (gVal (dMth "inverse_of" tab_inverse_of [0, 1] (gName 3) (cCons (gName 10) cNil))) (cCons (gName 8) cNil))))) (dNotT (dTst (dCallF (d__law_alike 8) [0, 1] (cCons (gVal (dMth "has" tab_has [0, 1] (gName 3) (cCons (gName 8) cNil))) (cCons (gVal (dC (.bl true))) cNil)))))) (sRet (dC (.bl false))) sNext))))))
theorem tn_step (a b c d1 d2 k : Int) (ds : List D) (R : Out) (h7 : s7.pinned = false) (h8 : s8.pinned = false) (h9 : s9.pinned = false) (h10 : s10.pinned = false)
  (k1 : d__law_draw [.lst o, .d (.int q)] = .ok (.d (.int d1)) [some (.lst o1), some (.d (.int q))]) (i1 : fIx (.d M) (.d (.int d1)) = some (.d (.int a))) (k2 : d__law_draw [.lst o1, .d (.int q)] = .ok (.d (.int d2)) [some (.lst o2), some (.d (.int q))]) (i2 : fIx (.d M) (.d (.int d2)) = some (.d (.int b)))
  (cm : clsO "multiply" (.d G) = some "PowerGroup") (ci : clsO "inverse_of" (.d G) = some "PowerGroup") (ch : clsO "has" (.d G) = some "PowerGroup") (sa : isSm a = true) (hp : 0 < p)
  (m1 : d_PowerGroup_multiply [.d G, .d (.int a), .d (.int b)] = .ok (.d (.int (a * b % p))) [some (.d G), some (.d (.int a)), some (.d (.int b))])
  (m2 : d_PowerGroup_multiply [.d G, .d (.int b), .d (.int a)] = .ok (.d (.int (a * b % p))) [some (.d G), some (.d (.int b)), some (.d (.int a))])
  (v1 : d_Group_inverse_of [.d G, .d (.int a)] = .ok (.d (.int c)) [some (.d G), some (.d (.int a))]) (n1 : fInU (.d (.int c)) (.d M) = some (.d (.bl true)))
  (m3 : d_PowerGroup_multiply [.d G, .d (.int a), .d (.int c)] = .ok (.d (.int 1)) [some (.d G), some (.d (.int a)), some (.d (.int c))])
  (v2 : d_Group_inverse_of [.d G, .d (.int c)] = .ok (.d (.int a)) [some (.d G), some (.d (.int c))]) (n2 : d_Group_has [.d G, .d (.int a)] = .ok (.d (.bl true)) [some (.d G), some (.d (.int a))])
  (A1 : AlikeK 8 (.tup [.int (a * b % p), .int (a * b % p)])) (A2 : AlikeK 8 (.bl true)) (A3 : AlikeK 8 (.int 1)) (A4 : AlikeK 8 (.int a))
  (h : sForL (tName 7) tnB ds [.p (.lst o2), .v (.d (.int q)), .v (.d (.int p)), .v (.d G), s4, s5, .v (.d M), .v (.d (.int k)), .v (.d (.int a)), .v (.d (.int b)), .v (.d (.int c)), s11, s12, s13, s14] = R) :
  sForL (tName 7) tnB (.int k :: ds) [.p (.lst o), .v (.d (.int q)), .v (.d (.int p)), .v (.d G), s4, s5, .v (.d M), s7, s8, s9, s10, s11, s12, s13, s14] = R := by
  unfold AlikeK at A1 A2 A3 A4
  rw [u2]
  have t1 := tabM "PowerGroup" rfl
  have t2 := tabI "PowerGroup" rfl
  have t3 := tabH "PowerGroup" rfl
  have z1 : (1 : Nat) ≤ sizeLine := by decide
  have z2 : (2 : Nat) ≤ sizeLine := by decide
  simp [h7, h8, h9, h10, k1, i1, k2, i2, cm, ci, ch, dMth, mthR, t1, t2, t3, ord, m1, m2, v1, n1, m3, v2, n2, A1, A2, A3, A4, y15 sa, y17 hp, z1, z2, h]
end
end K05

namespace K05
open PySem L2 MX
/-! ### primes, moduli, numbers that are none -/
abbrev prB : En → Out := (sSeq (sAsg (dBin fAdd (vS 1) (vT (dBin fMod (vT (dCall (on1 fInt) (vCons (vT (dBin fAdd (vS 3) (vS 4))) vNil))) (vT (dBin fAdd (vT (dBin fSub (vS 2) (vS 1))) (vT (dC (.int 1)))))))) (tName 5))
  (sIf (dTst (dCallF d__law_is_prime [0] (cCons (gName 5) cNil))) (sRet (dMove 5)) sNext))
theorem pr_step (s0 : Sl) (lo hi at_ k n : Int) (s4 s5 : Sl) (ds : List D) (R : Out) (h4 : s4.pinned = false) (h5 : s5.pinned = false) (hp : 0 < hi - lo + 1) (hn : n = lo + (at_ + k) % (hi - lo + 1))
  (h : (if isPrI n = true then .rt (.d (.int n)) [s0, .p (.d (.int lo)), .p (.d (.int hi)), .v (.d (.int at_)), .v (.d (.int k)), .no] else sForL (tName 4) prB ds [s0, .p (.d (.int lo)), .p (.d (.int hi)), .v (.d (.int at_)), .v (.d (.int k)), .v (.d (.int n))]) = R) :
  sForL (tName 4) prB (.int k :: ds) [s0, .p (.d (.int lo)), .p (.d (.int hi)), .v (.d (.int at_)), s4, s5] = R := by
  subst hn
  subst h
  rw [u2]
  have v := v_lip (lo + (at_ + k) % (hi - lo + 1))
  cases q : isPrI (lo + (at_ + k) % (hi - lo + 1)) <;> simp [h4, h5, y17 hp, v, q]
theorem pr_loop (s0 : Sl) (at_ : Int) : ∀ (m k : Nat) (s4 s5 : Sl), s4.pinned = false → s5.pinned = false →
    (∃ (n : Nat) (e : En), sForL (tName 4) prB (idx k m) [s0, .p (.d (.int 3)), .p (.d (.int 127)), .v (.d (.int at_)), s4, s5] = .rt (.d (.int (n : Int))) (s0 :: .p (.d (.int 3)) :: .p (.d (.int 127)) :: e) ∧ isPrI (n : Int) = true ∧ 3 ≤ n ∧ n ≤ 127) ∨
    ∃ e, sForL (tName 4) prB (idx k m) [s0, .p (.d (.int 3)), .p (.d (.int 127)), .v (.d (.int at_)), s4, s5] = .nx (s0 :: .p (.d (.int 3)) :: .p (.d (.int 127)) :: e)
  | 0, k, s4, s5, _, _ => .inr ⟨_, by rw [idx_0]; exact u1⟩
  | m + 1, k, s4, s5, h4, h5 => by
    have hp : (0 : Int) < 127 - 3 + 1 := by decide
    rw [idx_s]
    by_cases c : isPrI (3 + (at_ + (k : Int)) % (127 - 3 + 1)) = true
    · obtain ⟨n, hn⟩ : ∃ n : Nat, 3 + (at_ + (k : Int)) % (127 - 3 + 1) = (n : Int) := ⟨(3 + (at_ + (k : Int)) % (127 - 3 + 1)).toNat, by omega⟩
      refine .inl ⟨n, _, pr_step s0 3 127 at_ (k : Int) (n : Int) s4 s5 _ _ h4 h5 hp hn.symm (by rw [if_pos (by rw [← hn]; exact c)]), by rw [← hn]; exact c, by omega, by omega⟩
    · rcases pr_loop s0 at_ m (k + 1) (.v (.d (.int (k : Int)))) (.v (.d (.int (3 + (at_ + (k : Int)) % (127 - 3 + 1))))) rfl rfl with ⟨n, e, ih, x⟩ | ⟨e, ih⟩
      · exact .inl ⟨n, e, pr_step s0 3 127 at_ (k : Int) _ s4 s5 _ _ h4 h5 hp rfl (by rw [if_neg c]; exact ih), x⟩
      · exact .inr ⟨e, pr_step s0 3 127 at_ (k : Int) _ s4 s5 _ _ h4 h5 hp rfl (by rw [if_neg c]; exact ih)⟩
theorem bPr1 (B : En → Out) (o o1 : List O) (d : Int) (ix : List D) (R : Out) (k1 : d__law_draw [.lst o, .d (.int 125)] = .ok (.d (.int d)) [some (.lst o1), some (.d (.int 125))]) (hg : gR1 [.d (.int 125)] = some ix)
  (h : (sForL (tName 4) B ix [.p (.lst o1), .p (.d (.int 3)), .p (.d (.int 127)), .v (.d (.int d)), .no, .no]).andThen (sRet (dC (.int 3))) = R) :
  (sSeq (sAsg (dCallF d__law_draw [0, 1] (cCons (gName 0) (cCons (gVal (dBin fAdd (vT (dBin fSub (vS 2) (vS 1))) (vT (dC (.int 1))))) cNil))) (tName 3))
  (sSeq (sFor (iOps (vCons (vT (dBin fAdd (vT (dBin fSub (vS 2) (vS 1))) (vT (dC (.int 1))))) vNil) gR1) (tName 4) B) (sRet (dC (.int 3))))) [.p (.lst o), .p (.d (.int 3)), .p (.d (.int 127)), .no, .no, .no] = R := by
  subst h
  simp [k1, hg]
theorem v_lprime {o : List O} (hb : Box o) : ∃ (n : Nat) (o1 : List O), d__law_prime [.lst o, .d (.int 3), .d (.int 127)] = .ok (.d (.int (n : Int))) [some (.lst o1), some (.d (.int 3)), some (.d (.int 127))] ∧ Box o1 ∧ isPrI (n : Int) = true ∧ 3 ≤ n ∧ n ≤ 127 := by
  obtain ⟨d, o1, k1, _, _, b1⟩ := draw_spec 125 hb (by decide) (by decide)
  have hg : gR1 [.d (.int 125)] = some (idx 0 125) := gR1_n (m := 125) (by omega)
  rcases pr_loop (.p (.lst o1)) d 125 0 .no .no rfl rfl with ⟨n, e, h, x⟩ | ⟨e, h⟩
  · refine ⟨n, o1, ?_, b1, x⟩
    show denFn _ _ _ _ = _
    exact den_rt rfl (bPr1 prB o o1 d _ _ k1 hg (by rw [h]; rfl)) rfl
  · refine ⟨3, o1, ?_, b1, by decide +kernel, by omega, by omega⟩
    show denFn _ _ _ _ = _
    exact den_rt (e := .p (.lst o1) :: .p (.d (.int 3)) :: .p (.d (.int 127)) :: e) rfl (bPr1 prB o o1 d _ _ k1 hg (by rw [h]; rfl)) rfl
/-! numbers that leave 1 by q -/
abbrev moX : En → Out := (sAsg (dBin fAdd (vT (dC (.int 1))) (vT (dBin fMul (vS 1) (vT (dBin fAdd (vT (dC (.int 1))) (vT (dBin fMod (vT (dCall (on1 fInt) (vCons (vT (dBin fAdd (vS 3) (vS 4))) vNil))) (vS 2)))))))) (tName 5))
abbrev mdB : En → Out := (sSeq moX (sIf (dTst (dCallF d__law_is_prime [0] (cCons (gName 5) cNil))) (sRet (dMove 5)) sNext))
abbrev mcB : En → Out := (sSeq moX (sIf (dNotT (dTst (dCallF d__law_is_prime [0] (cCons (gName 5) cNil)))) (sRet (dMove 5)) sNext))
section
variable (s0 : Sl) (q many at_ k n : Int) (s4 s5 : Sl) (ds : List D) (R : Out) (h4 : s4.pinned = false) (h5 : s5.pinned = false) (sq : isSm q = true) (hm : 0 < many) (hn : n = 1 + q * (1 + (at_ + k) % many))
include h4 h5 sq hm hn
theorem md_step (h : (if isPrI n = true then .rt (.d (.int n)) [s0, .p (.d (.int q)), .v (.d (.int many)), .v (.d (.int at_)), .v (.d (.int k)), .no] else sForL (tName 4) mdB ds [s0, .p (.d (.int q)), .v (.d (.int many)), .v (.d (.int at_)), .v (.d (.int k)), .v (.d (.int n))]) = R) :
  sForL (tName 4) mdB (.int k :: ds) [s0, .p (.d (.int q)), .v (.d (.int many)), .v (.d (.int at_)), s4, s5] = R := by
  subst hn
  subst h
  rw [u2]
  have v := v_lip (1 + q * (1 + (at_ + k) % many))
  cases z : isPrI (1 + q * (1 + (at_ + k) % many)) <;> simp [h4, h5, y15 sq, y17 hm, v, z]
theorem mc_step (h : (if isPrI n = true then sForL (tName 4) mcB ds [s0, .p (.d (.int q)), .v (.d (.int many)), .v (.d (.int at_)), .v (.d (.int k)), .v (.d (.int n))] else .rt (.d (.int n)) [s0, .p (.d (.int q)), .v (.d (.int many)), .v (.d (.int at_)), .v (.d (.int k)), .no]) = R) :
  sForL (tName 4) mcB (.int k :: ds) [s0, .p (.d (.int q)), .v (.d (.int many)), .v (.d (.int at_)), s4, s5] = R := by
  subst hn
  subst h
  rw [u2]
  have v := v_lip (1 + q * (1 + (at_ + k) % many))
  cases z : isPrI (1 + q * (1 + (at_ + k) % many)) <;> simp [h4, h5, y15 sq, y17 hm, v, z]
end
theorem md_loop (s0 : Sl) (q many : Nat) (at_ : Int) (hq : q ≤ 1000) (hm : 0 < many) : ∀ (m k : Nat) (s4 s5 : Sl), s4.pinned = false → s5.pinned = false →
    (∃ (j : Nat) (e : En), sForL (tName 4) mdB (idx k m) [s0, .p (.d (.int (q : Int))), .v (.d (.int (many : Int))), .v (.d (.int at_)), s4, s5] = .rt (.d (.int ((1 + q * (1 + j) : Nat) : Int))) (s0 :: .p (.d (.int (q : Int))) :: e) ∧ isPrI ((1 + q * (1 + j) : Nat) : Int) = true ∧ j < many) ∨
    ∃ e, sForL (tName 4) mdB (idx k m) [s0, .p (.d (.int (q : Int))), .v (.d (.int (many : Int))), .v (.d (.int at_)), s4, s5] = .nx (s0 :: .p (.d (.int (q : Int))) :: e) ∧ ∀ t : Nat, k ≤ t → t < k + m → isPrI (1 + (q : Int) * (1 + (at_ + (t : Int)) % (many : Int))) = false
  | 0, k, s4, s5, _, _ => .inr ⟨_, by rw [idx_0]; exact u1, fun t h1 h2 => by omega⟩
  | m + 1, k, s4, s5, h4, h5 => by
    have hm' : (0 : Int) < (many : Int) := by omega
    have sq := sm_nat (n := q) (by omega)
    rw [idx_s]
    cases c : isPrI (1 + (q : Int) * (1 + (at_ + (k : Int)) % (many : Int))) with
    | true =>
      have h1 := Int.emod_nonneg (at_ + (k : Int)) (show (many : Int) ≠ 0 by omega)
      have h2 := Int.emod_lt_of_pos (at_ + (k : Int)) hm'
      obtain ⟨j, hj⟩ : ∃ j : Nat, (at_ + (k : Int)) % (many : Int) = (j : Int) := ⟨((at_ + (k : Int)) % (many : Int)).toNat, by omega⟩
      have en : 1 + (q : Int) * (1 + (at_ + (k : Int)) % (many : Int)) = ((1 + q * (1 + j) : Nat) : Int) := by rw [hj, Int.natCast_add, Int.natCast_mul, Int.natCast_add]; rfl
      rw [en] at c
      exact .inl ⟨j, _, md_step s0 _ _ at_ _ _ s4 s5 _ _ h4 h5 sq hm' en.symm (by rw [if_pos c]), c, by omega⟩
    | false =>
      have c' : ¬ isPrI (1 + (q : Int) * (1 + (at_ + (k : Int)) % (many : Int))) = true := by rw [c]; decide
      rcases md_loop s0 q many at_ hq hm m (k + 1) (.v (.d (.int (k : Int)))) (.v (.d (.int (1 + (q : Int) * (1 + (at_ + (k : Int)) % (many : Int)))))) rfl rfl with ⟨j, e, ih, x⟩ | ⟨e, ih, x⟩
      · exact .inl ⟨j, e, md_step s0 _ _ at_ _ _ s4 s5 _ _ h4 h5 sq hm' rfl (by rw [if_neg c']; exact ih), x⟩
      · refine .inr ⟨e, md_step s0 _ _ at_ _ _ s4 s5 _ _ h4 h5 sq hm' rfl (by rw [if_neg c']; exact ih), fun t h1 h2 => ?_⟩
        by_cases z : t = k
        · rw [z]; exact c
        · exact x t (by omega) (by omega)
theorem mc_loop (s0 : Sl) (q many : Nat) (at_ : Int) (hq : q ≤ 1000) (hm : 0 < many) : ∀ (m k : Nat) (s4 s5 : Sl), s4.pinned = false → s5.pinned = false →
    (∃ (n : Int) (e : En), sForL (tName 4) mcB (idx k m) [s0, .p (.d (.int (q : Int))), .v (.d (.int (many : Int))), .v (.d (.int at_)), s4, s5] = .rt (.d (.int n)) (s0 :: .p (.d (.int (q : Int))) :: e) ∧ isPrI n = false) ∨
    ∃ e, sForL (tName 4) mcB (idx k m) [s0, .p (.d (.int (q : Int))), .v (.d (.int (many : Int))), .v (.d (.int at_)), s4, s5] = .nx (s0 :: .p (.d (.int (q : Int))) :: e)
  | 0, k, s4, s5, _, _ => .inr ⟨_, by rw [idx_0]; exact u1⟩
  | m + 1, k, s4, s5, h4, h5 => by
    have hm' : (0 : Int) < (many : Int) := by omega
    have sq := sm_nat (n := q) (by omega)
    rw [idx_s]
    cases c : isPrI (1 + (q : Int) * (1 + (at_ + (k : Int)) % (many : Int))) with
    | false =>
      have c' : ¬ isPrI (1 + (q : Int) * (1 + (at_ + (k : Int)) % (many : Int))) = true := by rw [c]; decide
      exact .inl ⟨_, _, mc_step s0 _ _ at_ _ _ s4 s5 _ _ h4 h5 sq hm' rfl (by rw [if_neg c']), c⟩
    | true =>
      rcases mc_loop s0 q many at_ hq hm m (k + 1) (.v (.d (.int (k : Int)))) (.v (.d (.int (1 + (q : Int) * (1 + (at_ + (k : Int)) % (many : Int)))))) rfl rfl with ⟨j, e, ih, x⟩ | ⟨e, ih⟩
      · exact .inl ⟨j, e, mc_step s0 _ _ at_ _ _ s4 s5 _ _ h4 h5 sq hm' rfl (by rw [if_pos c]; exact ih), x⟩
      · exact .inr ⟨e, mc_step s0 _ _ at_ _ _ s4 s5 _ _ h4 h5 sq hm' rfl (by rw [if_pos c]; exact ih)⟩
theorem bMd (B : En → Out) (o o1 : List O) (q many d z : Int) (ix : List D) (R : Out) (hd : fDiv (.d (.int 999)) (.d (.int q)) = some (.d (.int many))) (k1 : d__law_draw [.lst o, .d (.int many)] = .ok (.d (.int d)) [some (.lst o1), some (.d (.int many))]) (hg : gR1 [.d (.int many)] = some ix)
  (h : (sForL (tName 4) B ix [.p (.lst o1), .p (.d (.int q)), .v (.d (.int many)), .v (.d (.int d)), .no, .no]).andThen (sRet (dC (.int z))) = R) :
  (sSeq (sAsg (dBin fDiv (vT (dC (.int 999))) (vS 1)) (tName 2))
  (sSeq (sAsg (dCallF d__law_draw [0, 1] (cCons (gName 0) (cCons (gName 2) cNil))) (tName 3))
  (sSeq (sFor (iOps (vCons (vS 2) vNil) gR1) (tName 4) B) (sRet (dC (.int z)))))) [.p (.lst o), .p (.d (.int q)), .no, .no, .no, .no] = R := by
  subst h
  simp [hd, k1, hg]
theorem many_ok {q : Nat} (h3 : 3 ≤ q) (h4 : q ≤ 127) : 7 ≤ 999 / q ∧ 999 / q ≤ 333 ∧ fDiv (.d (.int 999)) (.d (.int (q : Int))) = some (.d (.int ((999 / q : Nat) : Int))) := by
  have a : 999 / 127 ≤ 999 / q := Nat.div_le_div_left h4 (by omega)
  have b : 999 / q ≤ 999 / 3 := Nat.div_le_div_left h3 (by omega)
  refine ⟨by omega, by omega, ?_⟩
  rw [y18 (by omega) (by omega), Int.natCast_ediv]; rfl
theorem v_lmod {o : List O} {q : Nat} (hb : Box o) (h3 : 3 ≤ q) (h4 : q ≤ 127) : ∃ (p : Nat) (o1 : List O), d__law_modulus [.lst o, .d (.int (q : Int))] = .ok (.d (.int (p : Int))) [some (.lst o1), some (.d (.int (q : Int)))] ∧ Box o1 ∧
    ((p = 0 ∧ isPrI (1 + 2 * (q : Int)) = false) ∨ ∃ j, p = 1 + q * (1 + j) ∧ p ≤ 1000 ∧ isPrI (p : Int) = true) := by
  obtain ⟨m1, m2, hd⟩ := many_ok h3 h4
  obtain ⟨d, o1, k1, hd1, hd2, b1⟩ := draw_spec ((999 / q : Nat) : Int) hb (by omega) (by omega)
  have hg := gR1_n (m := 999 / q) (by omega)
  rcases md_loop (.p (.lst o1)) q (999 / q) d (by omega) (by omega) (999 / q) 0 .no .no rfl rfl with ⟨j, e, h, hpr, hj⟩ | ⟨e, h, hall⟩
  · refine ⟨1 + q * (1 + j), o1, ?_, b1, .inr ⟨j, rfl, ?_, hpr⟩⟩
    · show denFn _ _ _ _ = _
      exact den_rt rfl (bMd mdB o o1 _ _ d 0 _ _ hd k1 hg (by rw [h]; rfl)) rfl
    · have : q * (1 + j) ≤ q * (999 / q) := Nat.mul_le_mul_left q (by omega)
      have := Nat.mul_div_le 999 q
      omega
  · refine ⟨0, o1, ?_, b1, .inl ⟨rfl, ?_⟩⟩
    · show denFn _ _ _ _ = _
      exact den_rt (e := .p (.lst o1) :: .p (.d (.int (q : Int))) :: e) rfl (bMd mdB o o1 _ _ d 0 _ _ hd k1 hg (by rw [h]; rfl)) rfl
    · obtain ⟨dn, hdn⟩ := Int.eq_ofNat_of_zero_le hd1
      generalize hM : 999 / q = M at *
      have hlt : dn < M := by omega
      by_cases c : dn ≤ 1
      · have := hall (1 - dn) (by omega) (by omega)
        rw [show d + ((1 - dn : Nat) : Int) = 1 by omega, Int.emod_eq_of_lt (by omega) (by omega)] at this
        rw [show 1 + 2 * (q : Int) = 1 + (q : Int) * (1 + 1) by omega]
        exact this
      · have := hall (M + 1 - dn) (by omega) (by omega)
        rw [show d + ((M + 1 - dn : Nat) : Int) = 1 + (M : Int) by omega, Int.add_emod_right, Int.emod_eq_of_lt (by omega) (by omega)] at this
        rw [show 1 + 2 * (q : Int) = 1 + (q : Int) * (1 + 1) by omega]
        exact this
theorem v_lcomp {o : List O} {q : Nat} (hb : Box o) (h3 : 3 ≤ q) (h4 : q ≤ 127) : ∃ (n : Int) (o1 : List O), d__law_composite [.lst o, .d (.int (q : Int))] = .ok (.d (.int n)) [some (.lst o1), some (.d (.int (q : Int)))] ∧ Box o1 ∧ isPrI n = false := by
  obtain ⟨m1, m2, hd⟩ := many_ok h3 h4
  obtain ⟨d, o1, k1, hd1, hd2, b1⟩ := draw_spec ((999 / q : Nat) : Int) hb (by omega) (by omega)
  have hg := gR1_n (m := 999 / q) (by omega)
  rcases mc_loop (.p (.lst o1)) q (999 / q) d (by omega) (by omega) (999 / q) 0 .no .no rfl rfl with ⟨n, e, h, hpr⟩ | ⟨e, h⟩
  · refine ⟨n, o1, ?_, b1, hpr⟩
    show denFn _ _ _ _ = _
    exact den_rt rfl (bMd mcB o o1 _ _ d 1 _ _ hd k1 hg (by rw [h]; rfl)) rfl
  · refine ⟨1, o1, ?_, b1, by decide +kernel⟩
    show denFn _ _ _ _ = _
    exact den_rt (e := .p (.lst o1) :: .p (.d (.int (q : Int))) :: e) rfl (bMd mcB o o1 _ _ d 1 _ _ hd k1 hg (by rw [h]; rfl)) rfl
end K05

namespace K05
open PySem L2 MX
/-! ### right *)
-/
theorem ix_ml {p q : Nat} {k x : Nat} (h : (ml p q)[k]? = some x) : fIx (.d (.tup ((ml p q).map di))) (.d (.int (k : Int))) = some (.d (.int (x : Int))) := ixT_di h
theorem drawEl {o : List O} {p q : Nat} (hb : Box o) (g : GP p q) : ∃ (d : Int) (o1 : List O) (i : Nat), d__law_draw [.lst o, .d (.int (q : Int))] = .ok (.d (.int d)) [some (.lst o1), some (.d (.int (q : Int)))] ∧ Box o1 ∧ i < q ∧ fIx (.d (.tup ((ml p q).map di))) (.d (.int d)) = some (.d (.int (el p q i : Int))) := by
  have h3 := g.q3
  have h4 := g.q127
  obtain ⟨d, o1, k1, h1, h2, b1⟩ := draw_spec (q : Int) hb (by omega) (by omega)
  obtain ⟨k, rfl⟩ := Int.eq_ofNat_of_zero_le h1
  obtain ⟨i, hi, e, _⟩ := ml_of g (k := k) (by omega)
  exact ⟨_, o1, i, k1, b1, hi, ix_ml e⟩
theorem al2 (x : Int) : AlikeK 8 (.tup [.int x, .int x]) := al_tup 7 _ (by simp) fun y hy => by
  rcases List.mem_cons.mp hy with h | hy
  · rw [h]; exact al_int 6 _
  rcases List.mem_cons.mp hy with h | hy
  · rw [h]; exact al_int 6 _
  cases hy
theorem tn_loop {p q : Nat} (g : GP p q) (s4 s5 s11 s12 s13 s14 : Sl) : ∀ (m k : Nat) (o : List O) (s7 s8 s9 s10 : Sl), Box o → s7.pinned = false → s8.pinned = false → s9.pinned = false → s10.pinned = false →
    ∃ (o1 : List O) (t7 t8 t9 t10 : Sl), t8.pinned = false ∧ Box o1 ∧ sForL (tName 7) tnB (idx k m) [.p (.lst o), .v (.d (.int (q : Int))), .v (.d (.int (p : Int))), .v (.d (Gp p q)), s4, s5, .v (.d (.tup ((ml p q).map di))), s7, s8, s9, s10, s11, s12, s13, s14]
      = .nx [.p (.lst o1), .v (.d (.int (q : Int))), .v (.d (.int (p : Int))), .v (.d (Gp p q)), s4, s5, .v (.d (.tup ((ml p q).map di))), t7, t8, t9, t10, s11, s12, s13, s14]
  | 0, k, o, s7, s8, s9, s10, hb, _, h8, _, _ => ⟨o, s7, s8, s9, s10, h8, hb, by rw [idx_0]; exact u1⟩
  | m + 1, k, o, s7, s8, s9, s10, hb, h7, h8, h9, h10 => by
    obtain ⟨d1, o1, i, k1, b1, hi, e1⟩ := drawEl hb g
    obtain ⟨d2, o2, j, k2, b2, hj, e2⟩ := drawEl b1 g
    obtain ⟨o3, t7, t8, t9, t10, q8, b3, ih⟩ := tn_loop g s4 s5 s11 s12 s13 s14 m (k + 1) o2 (.v (.d (.int (k : Int)))) (.v (.d (.int (el p q i : Int)))) (.v (.d (.int (el p q j : Int)))) (.v (.d (.int (el p q (iv q i) : Int)))) b2 rfl rfl rfl rfl
    refine ⟨o3, t7, t8, t9, t10, q8, b3, ?_⟩
    rw [idx_s]
    have hq : 0 < q := by have := g.q3; omega
    have hp := g.p1000
    have li := el_lt (i := i) g
    have lj := el_lt (i := j) g
    have lv := el_lt (i := iv q i) g
    have m2 := v_mul (el p q j) (el p q i : Int) g lj
    rw [Int.mul_comm] at m2
    have m3 := v_mul (el p q i) (el p q (iv q i) : Int) g li
    rw [inv_mul g hi] at m3
    have v2 := v_inv (i := iv q i) g (iv_lt hq)
    rw [iv_iv hi] at v2
    have n2 := v_has g (el p q i : Int)
    rw [memI_nat (el_ml g hi)] at n2
    have n1 := in_tup (el p q (iv q i) : Int) (ml p q)
    rw [memI_nat (el_ml g (iv_lt hq))] at n1
    exact tn_step (el p q i : Int) (el p q j : Int) (el p q (iv q i) : Int) d1 d2 (k : Int) _ _ h7 h8 h9 h10 k1 e1 k2 e2 (c_mul _ _ _) (c_inv _ _ _) (c_has _ _ _) (sm_nat (by omega)) (by have := g.p1; omega)
      (v_mul (el p q i) (el p q j : Int) g li) m2 (v_inv g hi) n1 m3 v2 n2 (al2 _) (al_bl 7 _) (al_int 7 _) (al_int 7 _) ih
/-! values of all sorts -/
abbrev vaB : En → Out := (sSeq (sAsg (dAndV (dCall (on2 fIsi) (vCons (vS 12) (vCons (vT (dC (.ty "int"))) vNil))) (dBin fInU (vS 12) (vS 6))) (tName 13))
  (sIf (dOrT (dNotT (dTst (dCallF (d__law_alike 8) [0, 1] (cCons (gVal (dMth "has" tab_has [0, 1] (gName 3) (cCons (gName 12) cNil))) (cCons (gName 13) cNil))))) (dNotT (dTst (dCallF (d__law_alike 8) [0, 1] (cCons (gVal (dMth "has" tab_has [0, 1] (gName 3) (cCons (gName 12) cNil))) (cCons (gName 13) cNil)))))) (sRet (dC (.bl false))) sNext))
theorem va_step {G M : D} {s0 s1 s2 s4 s5 s7 s8 s9 s10 s11 s12 s13 s14 : Sl} (v : D) (i r : Bool) (ds : List D) (R : Out) (h12 : s12.pinned = false) (h13 : s13.pinned = false) (ch : clsO "has" (.d G) = some "PowerGroup")
  (hi : on2 fIsi [.d v, .d (.ty "int")] = some (.d (.bl i))) (hm : i = true → fInU (.d v) (.d M) = some (.d (.bl r))) (hf : i = false → r = false) (n : d_Group_has [.d G, .d v] = .ok (.d (.bl r)) [some (.d G), some (.d v)]) (A : AlikeK 8 (.bl r))
  (h : sForL (tName 12) vaB ds [s0, s1, s2, .v (.d G), s4, s5, .v (.d M), s7, s8, s9, s10, s11, .v (.d v), .v (.d (.bl r)), s14] = R) :
  sForL (tName 12) vaB (v :: ds) [s0, s1, s2, .v (.d G), s4, s5, .v (.d M), s7, s8, s9, s10, s11, s12, s13, s14] = R := by
  unfold AlikeK at A
  have t3 := tabH "PowerGroup" rfl
  rw [u2]
  cases i with
  | true =>
    have hm := hm rfl
    simp [h12, h13, hi, hm, ch, dMth, mthR, t3, n, A, h]
  | false =>
    have hf := hf rfl
    subst hf
    simp [h12, h13, hi, ch, dMth, mthR, t3, n, A, h]
def VOk (v : D) : Prop := (∃ x, v = .int x) ∨ on2 fIsi [.d v, .d (.ty "int")] = some (.d (.bl false))
theorem va_loop {p q : Nat} (g : GP p q) (s0 s1 s2 s4 s5 s7 s8 s9 s10 s11 s14 : Sl) : ∀ (vs : List D) (s12 s13 : Sl), (∀ v ∈ vs, VOk v) → s12.pinned = false → s13.pinned = false →
    ∃ t12 t13, sForL (tName 12) vaB vs [s0, s1, s2, .v (.d (Gp p q)), s4, s5, .v (.d (.tup ((ml p q).map di))), s7, s8, s9, s10, s11, s12, s13, s14] = .nx [s0, s1, s2, .v (.d (Gp p q)), s4, s5, .v (.d (.tup ((ml p q).map di))), s7, s8, s9, s10, s11, t12, t13, s14]
  | [], s12, s13, _, _, _ => ⟨s12, s13, u1⟩
  | v :: vs, s12, s13, hv, h12, h13 => by
    rcases hv v List.mem_cons_self with ⟨x, rfl⟩ | hi
    · obtain ⟨t12, t13, ih⟩ := va_loop g s0 s1 s2 s4 s5 s7 s8 s9 s10 s11 s14 vs (.v (.d (.int x))) (.v (.d (.bl (memI x (ml p q))))) (fun y hy => hv y (List.mem_cons_of_mem _ hy)) rfl rfl
      exact ⟨t12, t13, va_step (.int x) true (memI x (ml p q)) vs _ h12 h13 (c_has _ _ _) i2 (fun _ => in_tup x (ml p q)) (fun z => nomatch z) (v_has g x) (al_bl 7 _) ih⟩
    · obtain ⟨t12, t13, ih⟩ := va_loop g s0 s1 s2 s4 s5 s7 s8 s9 s10 s11 s14 vs (.v (.d v)) (.v (.d (.bl false))) (fun y hy => hv y (List.mem_cons_of_mem _ hy)) rfl rfl
      exact ⟨t12, t13, va_step v false false vs _ h12 h13 (c_has _ _ _) hi (fun z => nomatch z) (fun _ => rfl) (bHas0 _ v hi) (al_bl 7 _) ih⟩
section
variable {s0 s1 s2 s3 s4 s5 s6 s7 s8 s9 s10 s11 s12 s13 s14 : Sl} {o o1 o2 : List O} {p q a d : Int} {G M : D}
theorem r11 (h8 : s8.pinned = false) (k1 : d__law_draw [.lst o, .d (.int (q - 1))] = .ok (.d (.int d)) [some (.lst o1), some (.d (.int (q - 1)))]) (i1 : fIx (.d M) (.d (.int (1 + d))) = some (.d (.int a))) :
  (sAsg (dBin fIx (vS 6) (vT (dBin fAdd (vT (dC (.int 1))) (vT (dCallF d__law_draw [0, 1] (cCons (gName 0) (cCons (gVal (dBin fSub (vS 1) (vT (dC (.int 1))))) cNil))))))) (tName 8)) [.p (.lst o), .v (.d (.int q)), s2, s3, s4, s5, .v (.d M), s7, s8, s9, s10, s11, s12, s13, s14] = .nx [.p (.lst o1), .v (.d (.int q)), s2, s3, s4, s5, .v (.d M), s7, .v (.d (.int a)), s9, s10, s11, s12, s13, s14] := by
  simp [h8, k1, i1]
theorem pow20 : fPow (.d (.int 10)) (.d (.int 20)) = some (.d (.int 100000000000000000000)) := by rfl
abbrev strg (a p : Int) (M : D) : List D := [.int (a + p), .int (a - p), .int (0 - a), .int 100000000000000000000, .tup [], .tup [.int 1], .str (Str.ofString "1"), .str (Str.ofString ""), .non, .tup [M]]
theorem r12 (h11 : s11.pinned = false) :
  (sAsg (dLst (aCons (dBin fAdd (vS 8) (vS 2)) (aCons (dBin fSub (vS 8) (vS 2)) (aCons (dBin fSub (vT (dC (.int 0))) (vS 8)) (aCons (dBin fPow (vT (dC (.int 10))) (vT (dC (.int 20)))) (aCons (dTup aNil) (aCons (dTup (aCons (dC (.int 1)) aNil)) (aCons (dC (.str (Str.ofString "1"))) (aCons (dC (.str (Str.ofString ""))) (aCons (dC .non) (aCons (dTup (aCons (dVar 6) aNil)) aNil))))))))))) (tName 11))
  [s0, s1, .v (.d (.int p)), s3, s4, s5, .v (.d M), s7, .v (.d (.int a)), s9, s10, s11, s12, s13, s14] = .nx [s0, s1, .v (.d (.int p)), s3, s4, s5, .v (.d M), s7, .v (.d (.int a)), s9, s10, .v (.lst ((strg a p M).map .d)), s12, s13, s14] := by
  have z0 : (0 : Nat) ≤ sizeLine := by decide
  have z1 : (1 : Nat) ≤ sizeLine := by decide
  have z10 : (10 : Nat) ≤ sizeLine := by decide
  simp [h11, pow20, z0, z1, z10, strg]
abbrev firsts (p d : Int) : List D := [.int 0, .int 1, .int (-1), .int p, .int (p + 1), .int (1 - p), .int (p - 1), .int d]
theorem r13 (T : Tg) (B : En → Out) (st all : List D) (R : Out) (k1 : d__law_draw [.lst o, .d (.int p)] = .ok (.d (.int d)) [some (.lst o1), some (.d (.int p))]) (e : fAdd (.lst ((firsts p d).map .d)) (.lst (st.map .d)) = some (.lst (all.map .d)))
  (h : sForL T B all [.p (.lst o1), s1, .v (.d (.int p)), s3, s4, s5, s6, s7, s8, s9, s10, .v (.lst (st.map .d)), s12, s13, s14] = R) :
  (sFor (iAny (dBin fAdd (vT (dLst (aCons (dC (.int 0)) (aCons (dC (.int 1)) (aCons (dUn fNeg (vT (dC (.int 1)))) (aCons (dVar 2) (aCons (dBin fAdd (vS 2) (vT (dC (.int 1)))) (aCons (dBin fSub (vT (dC (.int 1))) (vS 2)) (aCons (dBin fSub (vS 2) (vT (dC (.int 1)))) (aCons (dCallF d__law_draw [0, 1] (cCons (gName 0) (cCons (gName 2) cNil))) aNil)))))))))) (vS 11))) T B)
  [.p (.lst o), s1, .v (.d (.int p)), s3, s4, s5, s6, s7, s8, s9, s10, .v (.lst (st.map .d)), s12, s13, s14] = R := by
  have z8 : (8 : Nat) ≤ sizeLine := by decide
  have z1 : (1 : Nat) ≤ sizeLine := by decide
  simp [firsts] at e
  simp [k1, z8, z1, e, h]
end
end K05

namespace K05
open PySem L2 MX
section
variable {o o1 : List O} {p q : Int}
abbrev nos : En := [.no, .no, .no, .no, .no, .no, .no, .no, .no, .no, .no, .no]
theorem r1 (k : d__law_modulus [.lst o, .d (.int q)] = .ok (.d (.int p)) [some (.lst o1), some (.d (.int q))]) :
  (sAsg (dCallF d__law_modulus [0, 1] (cCons (gName 0) (cCons (gName 1) cNil))) (tName 2)) (.p (.lst o) :: .v (.d (.int q)) :: .no :: nos) = .nx (.p (.lst o1) :: .v (.d (.int q)) :: .v (.d (.int p)) :: nos) := by
  simp [k]
abbrev R2 : En → Out := (sIf (dTst (dBin fEq (vS 2) (vT (dC (.int 0))))) (sSeq (sAsg (dC (.int 7)) (tName 2)) (sAsg (dC (.int 3)) (tName 1))) sNext)
theorem r2a : R2 (.p (.lst o) :: .v (.d (.int q)) :: .v (.d (.int 0)) :: nos) = .nx (.p (.lst o) :: .v (.d (.int 3)) :: .v (.d (.int 7)) :: nos) := by
  simp
theorem r2b (h : p ≠ 0) : R2 (.p (.lst o) :: .v (.d (.int q)) :: .v (.d (.int p)) :: nos) = .nx (.p (.lst o) :: .v (.d (.int q)) :: .v (.d (.int p)) :: nos) := by
  simp [h]
end
theorem ex_swap {α : Type} {a : Prop} {b : α → Prop} (ha : a) (h : ∃ x, b x) : ∃ x, a ∧ b x := by
  obtain ⟨x, hx⟩ := h
  exact ⟨x, ha, hx⟩
theorem r10 {T : Tg} {B : En → Out} {ix : List D} {e : En} {R : Out} (hg : gR1 [.d (.int 12)] = some ix) (h : sForL T B ix e = R) : (sFor (iOps (vCons (vT (dC (.int 12))) vNil) gR1) T B) e = R := by
  simp [hg, h]
theorem al3 (x y z : D) (hx : AlikeK 7 x) (hy : AlikeK 7 y) (hz : AlikeK 7 z) : AlikeK 8 (.tup [x, y, z]) := al_tup 7 _ (by simp) fun w hw => by
  rcases List.mem_cons.mp hw with h | hw
  · rw [h]; exact hx
  rcases List.mem_cons.mp hw with h | hw
  · rw [h]; exact hy
  rcases List.mem_cons.mp hw with h | hw
  · rw [h]; exact hz
  cases hw
theorem al_di (k : Nat) (l : List Nat) (hl : l.length ≤ 1000) : AlikeK (k + 2) (.tup (l.map di)) := by
  refine al_tup (k + 1) _ (by rw [List.length_map]; exact hl) fun x hx => ?_
  obtain ⟨i, _, hi⟩ := List.mem_map.mp hx
  rw [← hi]
  exact al_int k _
/-- from the pair on -/
theorem right_of {p q : Nat} {o : List O} (g : GP p q) (hb : Box o) (X : En → Out) (hX : X = sRet (dC (.bl true))) : ∃ (o1 : List O) (e : En), Box o1 ∧
  (sSeq (sAsg (dFz (dMake "PowerGroup" d_PowerGroup___init__ [1, 2] (cCons (gName 2) (cCons (gName 1) cNil)))) (tName 3))
  (sSeq (sAsg (dFz (dMake "PowerGroup" d_PowerGroup___init__ [2, 1] (cCons (gName 1) (cCons (gName 2) cNil)))) (tName 4))
  (sSeq (sAsg (dCallF d__law_powers [0, 1] (cCons (gName 2) (cCons (gName 1) cNil))) (tName 5))
  (sSeq R6 (sSeq R7
  (sSeq (sAsg (dCallF d__law_members [0, 1] (cCons (gName 2) (cCons (gName 1) cNil))) (tName 6))
  (sSeq (sIf (dOrT (dNotT (dTst (dCallF (d__law_alike 8) [0, 1] (cCons (gVal (dUn (fFld cs_ "members") (vS 3))) (cCons (gName 6) cNil))))) (dOrT (dTst (dBin fNe (vT (dCall fLenU (vCons (vS 6) vNil))) (vS 1))) (dNotT (dTst (dCall (on1 fAll) (vCons (vT (dLc (iAny (dVar 6)) [14] (tName 14) dYes inE)) vNil)))))) (sRet (dC (.bl false))) sNext)
  (sSeq (sFor (iOps (vCons (vT (dC (.int 12))) vNil) gR1) (tName 7) tnB)
  (sSeq (sAsg (dBin fIx (vS 6) (vT (dBin fAdd (vT (dC (.int 1))) (vT (dCallF d__law_draw [0, 1] (cCons (gName 0) (cCons (gVal (dBin fSub (vS 1) (vT (dC (.int 1))))) cNil))))))) (tName 8))
  (sSeq (sAsg (dLst (aCons (dBin fAdd (vS 8) (vS 2)) (aCons (dBin fSub (vS 8) (vS 2)) (aCons (dBin fSub (vT (dC (.int 0))) (vS 8)) (aCons (dBin fPow (vT (dC (.int 10))) (vT (dC (.int 20)))) (aCons (dTup aNil) (aCons (dTup (aCons (dC (.int 1)) aNil)) (aCons (dC (.str (Str.ofString "1"))) (aCons (dC (.str (Str.ofString ""))) (aCons (dC .non) (aCons (dTup (aCons (dVar 6) aNil)) aNil))))))))))) (tName 11))
  (sSeq (sFor (iAny (dBin fAdd (vT (dLst (aCons (dC (.int 0)) (aCons (dC (.int 1)) (aCons (dUn fNeg (vT (dC (.int 1)))) (aCons (dVar 2) (aCons (dBin fAdd (vS 2) (vT (dC (.int 1)))) (aCons (dBin fSub (vT (dC (.int 1))) (vS 2)) (aCons (dBin fSub (vS 2) (vT (dC (.int 1)))) (aCons (dCallF d__law_draw [0, 1] (cCons (gName 0) (cCons (gName 2) cNil))) aNil)))))))))) (vS 11))) (tName 12) vaB)
   X))))))))))) (.p (.lst o) :: .v (.d (.int (q : Int))) :: .v (.d (.int (p : Int))) :: nos) = .rt (.d (.bl true)) (.p (.lst o1) :: .v (.d (.int (q : Int))) :: e) := by
  have hp := g.p1
  have hp2 := g.p1000
  have h3 := g.q3
  have h4 := g.q127
  have hl : (ml p q).length = q := g.len
  have lenM : fLenU [.d (.tup ((ml p q).map di))] = some (.d (.int (q : Int))) := by rw [y13, List.length_map, hl]
  have hlp : fFld cs_ "order" (.d (Gp p q)) = some (.d (.int (q : Int))) := by
    have := f_ord p (pl p q) (ml p q)
    rw [pl_len] at this
    exact this
  have isc : on2 (fIsC sub_i) [.d (Gp p q), .d (.cls "Group")] = some (.d (.bl true)) := by rfl
  have lp := v_lpow p q hp hp2 (by omega) h4 g.st
  have inn := in_lc (s0 := .p (.lst o)) (s1 := .v (.d (.int (q : Int)))) (s2 := .v (.d (.int (p : Int)))) (s3 := .v (.d (Gp p q))) (s4 := .v (.d (Gp p q))) (s6 := .v (.d (.tup ((ml p q).map di)))) (s7 := .no) (s8 := .no) (s9 := .no) (s10 := .no) (s11 := .no) (s12 := .no) (s13 := .no) (nl (pl p q)) ((ml p q).map di) [] (fun d hd => by
    obtain ⟨x, hx, e⟩ := List.mem_map.mp hd
    rw [← e]
    have := in_nl (x : Int) (pl p q)
    rw [memI_eq g, memI_nat hx] at this
    exact this) (by rw [List.length_map, hl]; show 0 + _ ≤ _; omega)
  rw [List.nil_append] at inn
  obtain ⟨o1, t7, t8, t9, t10, q8, b1, htn⟩ := tn_loop g (.v (.d (Gp p q))) (.v (nl (pl p q))) .no .no .no .no 12 0 o .no .no .no .no hb rfl rfl rfl rfl
  obtain ⟨d, o2, k2, hd1, hd2, b2⟩ := draw_spec ((q : Int) - 1) b1 (by omega) (by omega)
  obtain ⟨dn, rfl⟩ := Int.eq_ofNat_of_zero_le hd1
  obtain ⟨i, hi, e1, _⟩ := ml_of g (k := 1 + dn) (by omega)
  have i1 := ix_ml e1
  rw [Int.natCast_add] at i1
  obtain ⟨d3, o3, k3, _, _, b3⟩ := draw_spec (p : Int) b2 (by omega) (by omega)
  obtain ⟨t12, t13, hva⟩ := va_loop g (.p (.lst o3)) (.v (.d (.int (q : Int)))) (.v (.d (.int (p : Int)))) (.v (.d (Gp p q))) (.v (nl (pl p q))) t7 (.v (.d (.int (el p q i : Int)))) t9 t10 (.v (.lst ((strg (el p q i : Int) (p : Int) (.tup ((ml p q).map di))).map .d))) .no (firsts (p : Int) d3 ++ strg (el p q i : Int) (p : Int) (.tup ((ml p q).map di))) .no .no (fun v hv => by
    rcases List.mem_append.mp hv with hv | hv
    · unfold firsts at hv
      simp only [List.mem_cons, List.not_mem_nil, or_false] at hv
      rcases hv with h | h | h | h | h | h | h | h <;> exact .inl ⟨_, h⟩
    · unfold strg at hv
      simp only [List.mem_cons, List.not_mem_nil, or_false] at hv
      rcases hv with h | h | h | h | h | h | h | h | h | h
      · exact .inl ⟨_, h⟩
      · exact .inl ⟨_, h⟩
      · exact .inl ⟨_, h⟩
      · exact .inl ⟨_, h⟩
      · subst h; exact .inr rfl
      · subst h; exact .inr rfl
      · subst h; exact .inr rfl
      · subst h; exact .inr rfl
      · subst h; exact .inr rfl
      · subst h; exact .inr rfl) rfl rfl
  subst hX
  refine Exists.intro o3 (ex_swap b3 ?_)
  apply Exists.intro
  refine seq_nx (mk1 .no _ _ G6_fz rfl (v_new g)) ?_
  refine seq_nx (mk2 _ _ G6_fz rfl (v_new g)) ?_
  refine seq_nx (mk5 _ rfl lp) ?_
  refine seq_nx (r6 (f_mod _ _ _) hlp (f_mem _ _ _) (al3 _ _ _ (al_int 6 _) (al_int 6 _) (al_di 5 (ml p q) (by omega)))) ?_
  refine seq_nx (r7 isc (f_mod _ _ _) hlp (f_unit _ _ _) (al3 _ _ _ (al_int 6 _) (al_int 6 _) (al_int 6 _))) ?_
  refine seq_nx (mk8 rfl (v_memb p q hp hp2 h4)) ?_
  refine seq_nx (r9 (tName 14) dYes inE _ _ _ (f_mem _ _ _) (al_di 6 (ml p q) (by omega)) lenM inn (all_rep _)) ?_
  refine seq_nx (e1 := [.p (.lst o1), .v (.d (.int (q : Int))), .v (.d (.int (p : Int))), .v (.d (Gp p q)), .v (.d (Gp p q)), .v (nl (pl p q)), .v (.d (.tup ((ml p q).map di))), t7, t8, t9, t10, .no, .no, .no, .no]) ?_ ?_
  · exact r10 (gR1_n (m := 12) (by omega)) htn
  refine seq_nx (r11 q8 k2 i1) ?_
  refine seq_nx (r12 rfl) ?_
  refine seq_nx (r13 (tName 12) vaB _ _ _ k3 rfl hva) ?_
  exact rfl
end K05

namespace K05
open PySem L2 MX
theorem ok_of {p q : Nat} (h3 : 3 ≤ q) (h4 : q ≤ 127) (hq : isPrI (q : Int) = true) (j : Nat) (hp : p = 1 + q * (1 + j)) (h : p ≤ 1000) (hpr : isPrI (p : Int) = true) : OkPair p q := by
  refine ⟨by omega, hpr, by omega, by omega, hq, ?_⟩
  have : (p : Int) - 1 = (q : Int) * ((1 + j : Nat) : Int) := by
    rw [hp, Int.natCast_add, Int.natCast_mul]; omega
  rw [this]
  exact Int.mul_emod_right _ _
theorem ok73 : OkPair 7 3 := by unfold OkPair; decide +kernel
theorem v_right {o : List O} {q : Nat} (hb : Box o) (hq : isPrI (q : Int) = true) (h3 : 3 ≤ q) (h4 : q ≤ 127) : ∃ (o1 : List O), Box o1 ∧ d__law_right [.lst o, .d (.int (q : Int))] = .ok (.d (.bl true)) [some (.lst o1), none] := by
  obtain ⟨p, o1, k1, b1, hp⟩ := v_lmod hb h3 h4
  rcases hp with ⟨rfl, _⟩ | ⟨j, hp, hle, hpr⟩
  · obtain ⟨o2, e, b2, h⟩ := right_of (p := 7) (q := 3) (gp_of ok73) b1 _ rfl
    refine ⟨o2, b2, ?_⟩
    show denFn _ _ _ _ = _
    refine den_rt (e := .p (.lst o2) :: .v (.d (.int ((3 : Nat) : Int))) :: e) (e0 := .p (.lst o) :: .v (.d (.int (q : Int))) :: .no :: nos) rfl ?_ rfl
    exact seq_nx (r1 k1) (seq_nx r2a h)
  · obtain ⟨o2, e, b2, h⟩ := right_of (gp_of (ok_of h3 h4 hq j hp hle hpr)) b1 _ rfl
    refine ⟨o2, b2, ?_⟩
    show denFn _ _ _ _ = _
    refine den_rt (e := .p (.lst o2) :: .v (.d (.int (q : Int))) :: e) (e0 := .p (.lst o) :: .v (.d (.int (q : Int))) :: .no :: nos) rfl ?_ rfl
    exact seq_nx (r1 k1) (seq_nx (r2b (by omega)) h)
/-! ### the boxes -/
theorem bx_lc (s0 s1 : Sl) : ∀ (ns acc : List Int), acc.length + ns.length ≤ 1000 →
    lcL [2] (tName 2) dYes (dCall (on1 fInt) (vCons (vS 2) vNil)) (ns.map .int) (acc.map fun i => O.d (.int i)) [s0, s1, .no] = .ok (.lst ((acc ++ ns).map fun i => O.d (.int i))) [s0, s1, .no]
  | [], acc, _ => by
    show Rs.ok _ _ = _
    rw [List.append_nil]
  | c :: ns, acc, hz => by
    rw [List.length_cons] at hz
    have ih := bx_lc s0 s1 ns (acc ++ [c]) (by rw [List.length_append, List.length_singleton]; omega)
    have t : tName 2 (.d (.int c)) [s0, s1, .no] = some [s0, s1, .v (.d (.int c))] := by simp
    have v : dCall (on1 fInt) (vCons (vS 2) vNil) [s0, s1, .v (.d (.int c))] = .ok (.d (.int c)) [s0, s1, .v (.d (.int c))] := by simp
    refine lc_step _ _ _ _ _ _ _ _ _ _ _ _ _ _ t rfl v (by rw [List.length_map]; omega) rfl ?_
    rw [List.map_append, List.append_assoc] at ih
    exact ih
theorem bBx (ns : List D) (a : Int) (L : O) (t1 : Tg) (c1 : En → Rs Bool) (ee : En → Rs O) (h : lcL [2] t1 c1 ee ns [] [.p (.d (.lst ns)), .p (.d (.int a)), .no] = .ok L [.p (.d (.lst ns)), .p (.d (.int a)), .no]) :
  (sRet (dLst (aCons (dC (.int 0)) (aCons (dC (.int 0)) (aCons (dVar 1) (aCons (dC (.int 0)) (aCons (dVar 1) (aCons (dFz (dLc (iAny (dVar 0)) [2] t1 c1 ee)) aNil)))))))) [.p (.d (.lst ns)), .p (.d (.int a)), .no] = .rt (.lst [.d (.int 0), .d (.int 0), .d (.int a), .d (.int 0), .d (.int a), .d L.fz]) [.p (.d (.lst ns)), .p (.d (.int a)), .no] := by
  have w1 : wipeE [.p (.d (.lst ns)), .p (.d (.int a)), .no] [2] = [.p (.d (.lst ns)), .p (.d (.int a)), .no] := rfl
  have z6 : (6 : Nat) ≤ sizeLine := by decide
  simp [w1, h, z6]
theorem v_box (ns : List Int) (h : ns.length ≤ 63) (a : Int) (ha : 0 ≤ a) : ∃ o, Box o ∧ d__law_box [.d (.lst (ns.map .int)), .d (.int a)] = .ok (.lst o) [some (.d (.lst (ns.map .int))), some (.d (.int a))] := by
  have hl := bx_lc (.p (.d (.lst (ns.map .int)))) (.p (.d (.int a))) ns [] (by show 0 + _ ≤ _; omega)
  rw [List.nil_append] at hl
  refine ⟨box 0 0 a 0 a (ns.map .int), ⟨0, 0, a, 0, a, ns, ha, rfl⟩, ?_⟩
  have e : (O.lst (ns.map fun i => O.d (.int i))).fz = .lst (ns.map .int) := by
    show D.lst (fzs (ns.map fun i => O.d (.int i))) = _
    have := fzs_leaf (ns.map D.int)
    rw [List.map_map] at this
    exact congrArg D.lst this
  have b := bBx (ns.map .int) a _ (tName 2) dYes (dCall (on1 fInt) (vCons (vS 2) vNil)) hl
  rw [e] at b
  show denFn _ _ _ _ = _
  exact den_rt rfl b rfl
/-! ### a prime beyond -/
abbrev byB : En → Out := (sIf (dAndT (dTst (dBin fEq (vT (dBin fMod (vT (dCall (on1 fInt) (vCons (vS 2) vNil))) (vS 1))) (vT (dC (.int 1))))) (dTst (dCallF d__law_is_prime [0] (cCons (gName 2) cNil)))) (sRet (dMove 2)) sNext)
theorem by_step (s0 : Sl) (q k : Int) (s2 : Sl) (ds : List D) (R : Out) (h2 : s2.pinned = false) (hq : 0 < q)
  (h : (if (decide (k % q = 1) && isPrI k) = true then .rt (.d (.int k)) [s0, .p (.d (.int q)), .no] else sForL (tName 2) byB ds [s0, .p (.d (.int q)), .v (.d (.int k))]) = R) :
  sForL (tName 2) byB (.int k :: ds) [s0, .p (.d (.int q)), s2] = R := by
  subst h
  rw [u2]
  have v := v_lip k
  by_cases c : k % q = 1
  · cases z : isPrI k <;> simp [h2, y17 hq, c, v, z]
  · simp [h2, y17 hq, c]
theorem by_loop (s0 : Sl) (q : Int) (hq : 0 < q) : ∀ (m k : Nat) (s2 : Sl), 1001 ≤ k → s2.pinned = false →
    (∃ (n : Int) (e : En), sForL (tName 2) byB (idx k m) [s0, .p (.d (.int q)), s2] = .rt (.d (.int n)) (s0 :: .p (.d (.int q)) :: e) ∧ 1001 ≤ n) ∨ ∃ e, sForL (tName 2) byB (idx k m) [s0, .p (.d (.int q)), s2] = .nx (s0 :: .p (.d (.int q)) :: e)
  | 0, k, s2, _, _ => .inr ⟨_, by rw [idx_0]; exact u1⟩
  | m + 1, k, s2, hk, h2 => by
    rw [idx_s]
    by_cases c : (decide ((k : Int) % q = 1) && isPrI (k : Int)) = true
    · exact .inl ⟨_, _, by_step s0 q (k : Int) s2 _ _ h2 hq (by rw [if_pos c]), by omega⟩
    · rcases by_loop s0 q hq m (k + 1) (.v (.d (.int (k : Int)))) (by omega) rfl with ⟨n, e, ih, x⟩ | ⟨e, ih⟩
      · exact .inl ⟨n, e, by_step s0 q (k : Int) s2 _ _ h2 hq (by rw [if_neg c]; exact ih), x⟩
      · exact .inr ⟨e, by_step s0 q (k : Int) s2 _ _ h2 hq (by rw [if_neg c]; exact ih)⟩
theorem bBy (B : En → Out) (o o1 : List O) (q d : Int) (ix : List D) (R : Out) (k1 : d__law_draw [.lst o, .d (.int 200)] = .ok (.d (.int d)) [some (.lst o1), some (.d (.int 200))]) (hg : gR2 [.d (.int (1001 + d)), .d (.int 1600)] = some ix)
  (h : (sForL (tName 2) B ix [.p (.lst o1), .p (.d (.int q)), .no]).andThen (sRet (dC (.int 1009))) = R) :
  (sSeq (sFor (iOps (vCons (vT (dBin fAdd (vT (dC (.int 1001))) (vT (dCallF d__law_draw [0, 1] (cCons (gName 0) (cCons (gVal (dC (.int 200))) cNil)))))) (vCons (vT (dC (.int 1600))) vNil)) gR2) (tName 2) B) (sRet (dC (.int 1009)))) [.p (.lst o), .p (.d (.int q)), .no] = R := by
  subst h
  simp [k1, hg]
theorem v_lbey {o : List O} {q : Nat} (hb : Box o) (h3 : 3 ≤ q) : ∃ (n : Int) (o1 : List O), d__law_beyond [.lst o, .d (.int (q : Int))] = .ok (.d (.int n)) [some (.lst o1), some (.d (.int (q : Int)))] ∧ Box o1 ∧ 1001 ≤ n := by
  obtain ⟨d, o1, k1, hd1, hd2, b1⟩ := draw_spec 200 hb (by decide) (by decide)
  obtain ⟨dn, rfl⟩ := Int.eq_ofNat_of_zero_le hd1
  have hg : gR2 [.d (.int (1001 + (dn : Int))), .d (.int 1600)] = some (idx (1001 + dn) (1600 - (1001 + dn))) := by
    have := gR2_n (a := 1001 + dn) (b := 1600) (by omega) (by omega)
    rw [Int.natCast_add] at this
    exact this
  rcases by_loop (.p (.lst o1)) (q : Int) (by omega) (1600 - (1001 + dn)) (1001 + dn) .no (by omega) rfl with ⟨n, e, h, x⟩ | ⟨e, h⟩
  · refine ⟨n, o1, ?_, b1, x⟩
    show denFn _ _ _ _ = _
    exact den_rt rfl (bBy byB o o1 _ _ _ _ k1 hg (by rw [h]; rfl)) rfl
  · refine ⟨1009, o1, ?_, b1, by decide⟩
    show denFn _ _ _ _ = _
    exact den_rt (e := .p (.lst o1) :: .p (.d (.int (q : Int))) :: e) rfl (bBy byB o o1 _ _ _ _ k1 hg (by rw [h]; rfl)) rfl
/-! ### a great order -/
abbrev grB : En → Out := (sIf (dAndT (dTst (dCallF d__law_is_prime [0] (cCons (gName 1) cNil))) (dAndT (dTst (dCallF d__law_is_prime [0] (cCons (gVal (dBin fAdd (vT (dBin fMul (vT (dC (.int 2))) (vS 1))) (vT (dC (.int 1))))) cNil))) (dTst (dBin fLt (vT (dBin fMul (vT (dC (.int 2))) (vS 1))) (vT (dC (.int 1000))))))) (sRet (dTup (aCons (dBin fAdd (vT (dBin fMul (vT (dC (.int 2))) (vS 1))) (vT (dC (.int 1)))) (aCons (dVar 1) aNil)))) sNext)
theorem gr_step (s0 : Sl) (k : Int) (s1 : Sl) (ds : List D) (R : Out) (h1 : s1.pinned = false)
  (h : (if (isPrI k && (isPrI (2 * k + 1) && decide (2 * k < 1000))) = true then .rt (.d (.tup [.int (2 * k + 1), .int k])) [s0, .v (.d (.int k))] else sForL (tName 1) grB ds [s0, .v (.d (.int k))]) = R) :
  sForL (tName 1) grB (.int k :: ds) [s0, s1] = R := by
  subst h
  rw [u2]
  have s2 : isSm 2 = true := by decide
  have z2 : (2 : Nat) ≤ sizeLine := by decide
  have v := v_lip k
  have w := v_lip (2 * k + 1)
  by_cases c : 2 * k < 1000 <;> cases z : isPrI k <;> cases y : isPrI (2 * k + 1) <;> simp [h1, v, w, z, y, y15 s2, c, z2]
theorem gr_loop (s0 : Sl) : ∀ (m k : Nat) (s1 : Sl), 131 ≤ k → s1.pinned = false →
    (∃ (x y : Int) (e : En), sForL (tName 1) grB (idx k m) [s0, s1] = .rt (.d (.tup [.int x, .int y])) (s0 :: e) ∧ 127 < y) ∨ ∃ e, sForL (tName 1) grB (idx k m) [s0, s1] = .nx (s0 :: e)
  | 0, k, s1, _, _ => .inr ⟨_, by rw [idx_0]; exact u1⟩
  | m + 1, k, s1, hk, h1 => by
    rw [idx_s]
    by_cases c : (isPrI (k : Int) && (isPrI (2 * (k : Int) + 1) && decide (2 * (k : Int) < 1000))) = true
    · exact .inl ⟨_, _, _, gr_step s0 (k : Int) s1 _ _ h1 (by rw [if_pos c]), by omega⟩
    · rcases gr_loop s0 m (k + 1) (.v (.d (.int (k : Int)))) (by omega) rfl with ⟨x, y, e, ih, z⟩ | ⟨e, ih⟩
      · exact .inl ⟨x, y, e, gr_step s0 (k : Int) s1 _ _ h1 (by rw [if_neg c]; exact ih), z⟩
      · exact .inr ⟨e, gr_step s0 (k : Int) s1 _ _ h1 (by rw [if_neg c]; exact ih)⟩
theorem bGr (B : En → Out) (o o1 : List O) (d : Int) (ix : List D) (R : Out) (k1 : d__law_draw [.lst o, .d (.int 300)] = .ok (.d (.int d)) [some (.lst o1), some (.d (.int 300))]) (hg : gR2 [.d (.int (131 + d)), .d (.int 500)] = some ix)
  (h : (sForL (tName 1) B ix [.p (.lst o1), .no]).andThen (sRet (dTup (aCons (dC (.int 263)) (aCons (dC (.int 131)) aNil)))) = R) :
  (sSeq (sFor (iOps (vCons (vT (dBin fAdd (vT (dC (.int 131))) (vT (dCallF d__law_draw [0, 1] (cCons (gName 0) (cCons (gVal (dC (.int 300))) cNil)))))) (vCons (vT (dC (.int 500))) vNil)) gR2) (tName 1) B) (sRet (dTup (aCons (dC (.int 263)) (aCons (dC (.int 131)) aNil))))) [.p (.lst o), .no] = R := by
  subst h
  simp [k1, hg]
theorem v_lgreat {o : List O} (hb : Box o) : ∃ (x y : Int) (o1 : List O), d__law_great_order [.lst o] = .ok (.d (.tup [.int x, .int y])) [some (.lst o1)] ∧ Box o1 ∧ 127 < y := by
  obtain ⟨d, o1, k1, hd1, hd2, b1⟩ := draw_spec 300 hb (by decide) (by decide)
  obtain ⟨dn, rfl⟩ := Int.eq_ofNat_of_zero_le hd1
  have hg : gR2 [.d (.int (131 + (dn : Int))), .d (.int 500)] = some (idx (131 + dn) (500 - (131 + dn))) := by
    have := gR2_n (a := 131 + dn) (b := 500) (by omega) (by omega)
    rw [Int.natCast_add] at this
    exact this
  rcases gr_loop (.p (.lst o1)) (500 - (131 + dn)) (131 + dn) .no (by omega) rfl with ⟨x, y, e, h, z⟩ | ⟨e, h⟩
  · refine ⟨x, y, o1, ?_, b1, z⟩
    show denFn _ _ _ _ = _
    exact den_rt rfl (bGr grB o o1 _ _ _ k1 hg (by rw [h]; rfl)) rfl
  · refine ⟨263, 131, o1, ?_, b1, by decide⟩
    show denFn _ _ _ _ = _
    refine den_rt (e := .p (.lst o1) :: e) rfl (bGr grB o o1 _ _ _ k1 hg ?_) rfl
    rw [h]
    have z2 : (2 : Nat) ≤ sizeLine := by decide
    show sRet (dTup (aCons (dC (.int 263)) (aCons (dC (.int 131)) aNil))) (.p (.lst o1) :: e) = _
    simp [z2]
end K05

namespace K05
open PySem L2 MX
/-! ### orders that are none -/
def ll (l : List Int) : O := .lst ((l.map D.int).map .d)
theorem ls_ll (l : List Int) : (ll l).ls = some (l.map .int) := leafs_map _
theorem sIx_posN {n d : Nat} {j : Nat} : HT.sIx n d (some (j : Int)) = min j n := by
  rw [HT.sIx_nat]
theorem cut_toN {xs : List D} {j : Nat} : cutD xs none (some (j : Int)) = xs.take j := by
  unfold cutD
  rw [HT.sIx_none, sIx_posN, List.drop_zero, Nat.sub_zero]
  rcases Nat.le_total j xs.length with q | q
  · rw [Nat.min_eq_left q]
  · rw [Nat.min_eq_right q, List.take_length, List.take_of_length_le q]
theorem sl_ll {l : List Int} {j : Nat} : fSl (ll l) none (some (j : Int)) = some (ll (l.take j)) := by
  have e1 : fSlL (ll l) none (some (j : Int)) = some (ll (l.take j)) := by
    show (ll l).ls.map _ = _
    rw [ls_ll]
    show some (O.lst ((cutD (l.map D.int) none (some (j : Int))).map .d)) = _
    rw [cut_toN]; unfold ll; simp only [List.map_take]
  unfold fSl; rw [e1]
theorem cat_ll {a b : List Int} (h : a.length + b.length ≤ sizeLine) : fAdd (ll a) (ll b) = some (ll (a ++ b)) := by
  have e1 : fCat (ll a) (ll b) = some (ll (a ++ b)) := by
    show (match (ll a).ls, (ll b).ls with
      | some xs, some ys => if xs.length + ys.length ≤ sizeLine then some (O.lst ((xs ++ ys).map .d)) else none
      | _, _ => none) = _
    rw [ls_ll, ls_ll]
    show (if (a.map D.int).length + (b.map D.int).length ≤ sizeLine then some (O.lst ((a.map D.int ++ b.map D.int).map .d)) else none) = _
    rw [List.length_map, List.length_map, if_pos h]; unfold ll; simp only [List.map_append]
  show (match fCat (ll a) (ll b) with
      | some z => some z
      | none => fCatT (ll a) (ll b)) = _
  rw [e1]
def fl (P : Int → Bool) : Nat → Nat → List Int
  | 0, _ => []
  | n + 1, a => if P (a : Int) = true then (a : Int) :: fl P n (a + 1) else fl P n (a + 1)
theorem mem_fl {P : Int → Bool} : ∀ {n a : Nat} {x : Int}, x ∈ fl P n a → P x = true ∧ (a : Int) ≤ x
  | 0, a, x, h => by cases h
  | n + 1, a, x, h => by
    unfold fl at h
    split at h
    · rename_i c
      rcases List.mem_cons.mp h with e | h
      · subst e; exact ⟨c, Int.le_refl _⟩
      · have := mem_fl h; exact ⟨this.1, by omega⟩
    · have := mem_fl h; exact ⟨this.1, by omega⟩
theorem fl_lc (P : Int → Bool) (c : En → Rs Bool) (s0 s1 : Sl) (hc : ∀ x : Nat, 0 < x → c [s0, s1, .v (.d (.int (x : Int)))] = .ok (P (x : Int)) [s0, s1, .v (.d (.int (x : Int)))]) : ∀ (m a : Nat) (acc : List Int), 0 < a → acc.length + m ≤ 1001 →
    lcL [2] (tName 2) c (dVar 2) (idx a m) ((acc.map D.int).map .d) [s0, s1, .no] = .ok (ll (acc ++ fl P m a)) [s0, s1, .no]
  | 0, a, acc, _, _ => by
    show Rs.ok (O.lst _) _ = Rs.ok (ll (acc ++ [])) _
    rw [List.append_nil]; rfl
  | m + 1, a, acc, ha, hz => by
    rw [idx_s]
    have c1 := hc a ha
    have t : tName 2 (.d (.int (a : Int))) [s0, s1, .no] = some [s0, s1, .v (.d (.int (a : Int)))] := by simp
    have v : dVar 2 [s0, s1, .v (.d (.int (a : Int)))] = .ok (.d (.int (a : Int))) [s0, s1, .v (.d (.int (a : Int)))] := by simp
    unfold fl
    by_cases h : P (a : Int) = true
    · rw [if_pos h]
      rw [h] at c1
      have ih := fl_lc P c s0 s1 hc m (a + 1) (acc ++ [(a : Int)]) (by omega) (by rw [List.length_append, List.length_singleton]; omega)
      refine lc_step _ _ _ _ _ _ _ _ _ _ _ _ _ _ t c1 v (by rw [List.length_map, List.length_map]; omega) rfl ?_
      rw [List.map_append, List.map_append, List.append_assoc] at ih
      exact ih
    · rw [if_neg h]
      rw [eq_false_of_ne_true h] at c1
      have ih := fl_lc P c s0 s1 hc m (a + 1) acc (by omega) (by omega)
      exact lc_skip _ _ _ _ _ _ _ _ _ _ _ _ t c1 rfl ih
abbrev c1W : En → Rs Bool := (dAndT (dTst (dBin fEq (vT (dBin fMod (vT (dCall (on1 fInt) (vCons (vT (dBin fSub (vS 0) (vT (dC (.int 1))))) vNil))) (vS 2))) (vT (dC (.int 0))))) (dNotT (dTst (dCallF d__law_is_prime [0] (cCons (gName 2) cNil)))))
abbrev c2W : En → Rs Bool := (dAndT (dTst (dBin fEq (vT (dBin fMod (vT (dCall (on1 fInt) (vCons (vT (dBin fSub (vS 0) (vT (dC (.int 1))))) vNil))) (vS 2))) (vT (dC (.int 0))))) (dTst (dCallF d__law_is_prime [0] (cCons (gName 2) cNil))))
abbrev c3W : En → Rs Bool := (dAndT (dTst (dBin fNe (vT (dBin fMod (vT (dCall (on1 fInt) (vCons (vT (dBin fSub (vS 0) (vT (dC (.int 1))))) vNil))) (vS 2))) (vT (dC (.int 0))))) (dTst (dCallF d__law_is_prime [0] (cCons (gName 2) cNil))))
section
variable (p : Int) (s1 : Sl) (x : Nat) (h : 0 < x)
include h
theorem cw1 : c1W [.p (.d (.int p)), s1, .v (.d (.int (x : Int)))] = .ok (decide ((p - 1) % (x : Int) = 0) && !isPrI (x : Int)) [.p (.d (.int p)), s1, .v (.d (.int (x : Int)))] := by
  have v := v_lip (x : Int)
  have hx : (0 : Int) < (x : Int) := by omega
  by_cases c : (p - 1) % (x : Int) = 0 <;> simp [y17 hx, v, c]
theorem cw2 : c2W [.p (.d (.int p)), s1, .v (.d (.int (x : Int)))] = .ok (decide ((p - 1) % (x : Int) = 0) && isPrI (x : Int)) [.p (.d (.int p)), s1, .v (.d (.int (x : Int)))] := by
  have v := v_lip (x : Int)
  have hx : (0 : Int) < (x : Int) := by omega
  by_cases c : (p - 1) % (x : Int) = 0 <;> simp [y17 hx, v, c]
theorem cw3 : c3W [.p (.d (.int p)), s1, .v (.d (.int (x : Int)))] = .ok (!decide ((p - 1) % (x : Int) = 0) && isPrI (x : Int)) [.p (.d (.int p)), s1, .v (.d (.int (x : Int)))] := by
  have v := v_lip (x : Int)
  have hx : (0 : Int) < (x : Int) := by omega
  by_cases c : (p - 1) % (x : Int) = 0 <;> simp [y17 hx, v, c]
end
section
variable {p : Int} {ix : List D} {L L1 M M2 : O} {c : En → Rs Bool} {e : En → Rs O} {t : Tg}
theorem wo1 (hg : gR2 [.d (.int 4), .d (.int 128)] = some ix) (h : lcL [2] t c e ix [] [.p (.d (.int p)), .no, .no] = .ok L [.p (.d (.int p)), .no, .no]) (hs : fSl L none (some 3) = some L1) :
  (sAsg (dSl fSl (vT (dLc (iOps (vCons (vT (dC (.int 4))) (vCons (vT (dC (.int 128))) vNil)) gR2) [2] t c e)) oNone (oSome (vT (dC (.int 3))))) (tName 1)) [.p (.d (.int p)), .no, .no] = .nx [.p (.d (.int p)), .v L1, .no] := by
  have w1 : wipeE [.p (.d (.int p)), .no, .no] [2] = [.p (.d (.int p)), .no, .no] := rfl
  simp [hg, w1, h, hs]
theorem wo2 (hg : gR2 [.d (.int 128), .d (.int p)] = some ix) (h : lcL [2] t c e ix [] [.p (.d (.int p)), .v M, .no] = .ok L [.p (.d (.int p)), .v M, .no]) (hs : fSl L none (some 2) = some L1) (ha : fAdd M L1 = some M2) :
  (sAsg (dBin fAdd (vS 1) (vT (dSl fSl (vT (dLc (iOps (vCons (vT (dC (.int 128))) (vCons (vS 0) vNil)) gR2) [2] t c e)) oNone (oSome (vT (dC (.int 2))))))) (tName 1)) [.p (.d (.int p)), .v M, .no] = .nx [.p (.d (.int p)), .v M2, .no] := by
  have w1 : wipeE [.p (.d (.int p)), .v M, .no] [2] = [.p (.d (.int p)), .v M, .no] := rfl
  simp [hg, w1, h, hs, ha]
theorem wo3 (hg : gR2 [.d (.int 3), .d (.int 128)] = some ix) (h : lcL [2] t c e ix [] [.p (.d (.int p)), .v M, .no] = .ok L [.p (.d (.int p)), .v M, .no]) (hs : fSl L none (some 4) = some L1) (ha : fAdd M L1 = some M2) :
  (sAsg (dBin fAdd (vS 1) (vT (dSl fSl (vT (dLc (iOps (vCons (vT (dC (.int 3))) (vCons (vT (dC (.int 128))) vNil)) gR2) [2] t c e)) oNone (oSome (vT (dC (.int 4))))))) (tName 1)) [.p (.d (.int p)), .v M, .no] = .nx [.p (.d (.int p)), .v M2, .no] := by
  have w1 : wipeE [.p (.d (.int p)), .v M, .no] [2] = [.p (.d (.int p)), .v M, .no] := rfl
  simp [hg, w1, h, hs, ha]
theorem pow9 : fPow (.d (.int 10)) (.d (.int 9)) = some (.d (.int 1000000000)) := by rfl
def lastW (p : Int) : List Int := [2, 1, 0, -1, -3, p - 1, p, 1000000000]
theorem wo4 (ha : fAdd M (ll (lastW p)) = some M2) :
  (sRet (dBin fAdd (vS 1) (vT (dLst (aCons (dC (.int 2)) (aCons (dC (.int 1)) (aCons (dC (.int 0)) (aCons (dUn fNeg (vT (dC (.int 1)))) (aCons (dUn fNeg (vT (dC (.int 3)))) (aCons (dBin fSub (vS 0) (vT (dC (.int 1)))) (aCons (dVar 0) (aCons (dBin fPow (vT (dC (.int 10))) (vT (dC (.int 9)))) aNil)))))))))))) [.p (.d (.int p)), .v M, .no] = .rt M2 [.p (.d (.int p)), .v M, .no] := by
  have z8 : (8 : Nat) ≤ sizeLine := by decide
  simp [lastW, ll] at ha
  simp [z8, pow9, ha]
end
theorem ev_pr {n : Int} (h : isPrI n = true) (h2 : 3 ≤ n) : n % 2 = 1 := by
  unfold isPrI at h
  rw [if_neg (by omega)] at h
  unfold trR at h
  by_cases q : n < 4
  · omega
  · rw [if_neg (by omega)] at h
    by_cases z : n % 2 = 0
    · rw [if_pos (show n % ((2 : Nat) : Int) = 0 from z)] at h; exact absurd h (by decide)
    · omega
theorem v_wo {p : Nat} (h5 : 5 ≤ p) (h6 : p ≤ 1000) (hp : isPrI (p : Int) = true) : ∃ ws : List Int, d__law_wrong_orders [.d (.int (p : Int))] = .ok (ll ws) [some (.d (.int (p : Int)))] ∧ ∀ w ∈ ws, ¬ OkPair (p : Int) w := by
  have g1 : gR2 [.d (.int 4), .d (.int 128)] = some (idx 4 124) := gR2_n (a := 4) (b := 128) (by omega) (by omega)
  have g2 : gR2 [.d (.int 128), .d (.int (p : Int))] = some (idx 128 (p - 128)) := gR2_n (a := 128) (b := p) (by omega) (by omega)
  have g3 : gR2 [.d (.int 3), .d (.int 128)] = some (idx 3 125) := gR2_n (a := 3) (b := 128) (by omega) (by omega)
  have l1 := fl_lc (fun x => decide (((p : Int) - 1) % x = 0) && !isPrI x) c1W (.p (.d (.int (p : Int)))) .no (fun x hx => cw1 _ _ x hx) 124 4 [] (by omega) (by show 0 + _ ≤ _; omega)
  rw [List.nil_append] at l1
  generalize ha : (fl (fun x => decide (((p : Int) - 1) % x = 0) && !isPrI x) 124 4) = A at l1
  have s1 : fSl (ll A) none (some 3) = some (ll (A.take 3)) := sl_ll (j := 3)
  have l2 := fl_lc (fun x => decide (((p : Int) - 1) % x = 0) && isPrI x) c2W (.p (.d (.int (p : Int)))) (.v (ll (A.take 3))) (fun x hx => cw2 _ _ x hx) (p - 128) 128 [] (by omega) (by show 0 + _ ≤ _; omega)
  rw [List.nil_append] at l2
  generalize hb : (fl (fun x => decide (((p : Int) - 1) % x = 0) && isPrI x) (p - 128) 128) = B at l2
  have s2 : fSl (ll B) none (some 2) = some (ll (B.take 2)) := sl_ll (j := 2)
  have big : (100 : Nat) ≤ sizeLine := by decide
  have n1 : (A.take 3).length ≤ 3 := by rw [List.length_take]; omega
  have n2 : (B.take 2).length ≤ 2 := by rw [List.length_take]; omega
  have a2 : fAdd (ll (A.take 3)) (ll (B.take 2)) = some (ll (A.take 3 ++ B.take 2)) := cat_ll (by omega)
  have l3 := fl_lc (fun x => !decide (((p : Int) - 1) % x = 0) && isPrI x) c3W (.p (.d (.int (p : Int)))) (.v (ll (A.take 3 ++ B.take 2))) (fun x hx => cw3 _ _ x hx) 125 3 [] (by omega) (by show 0 + _ ≤ _; omega)
  rw [List.nil_append] at l3
  generalize hc : (fl (fun x => !decide (((p : Int) - 1) % x = 0) && isPrI x) 125 3) = C at l3
  have s3 : fSl (ll C) none (some 4) = some (ll (C.take 4)) := sl_ll (j := 4)
  have n3 : (C.take 4).length ≤ 4 := by rw [List.length_take]; omega
  have a3 : fAdd (ll (A.take 3 ++ B.take 2)) (ll (C.take 4)) = some (ll (A.take 3 ++ B.take 2 ++ C.take 4)) := cat_ll (by rw [List.length_append]; omega)
  have a4 : fAdd (ll (A.take 3 ++ B.take 2 ++ C.take 4)) (ll (lastW (p : Int))) = some (ll (A.take 3 ++ B.take 2 ++ C.take 4 ++ lastW (p : Int))) := cat_ll (by rw [List.length_append, List.length_append]; show _ + 8 ≤ _; omega)
  refine ⟨A.take 3 ++ B.take 2 ++ C.take 4 ++ lastW (p : Int), ?_, ?_⟩
  · show denFn _ _ _ _ = _
    exact den_rt rfl (seq_nx (wo1 g1 l1 s1) (seq_nx (wo2 g2 l2 s2 a2) (seq_nx (wo3 g3 l3 s3 a3) (wo4 a4)))) rfl
  · intro w hw ok
    have od := ev_pr hp (by omega)
    unfold OkPair at ok
    rcases List.mem_append.mp hw with hw | hw
    · rcases List.mem_append.mp hw with hw | hw
      · rcases List.mem_append.mp hw with hw | hw
        · have hw := List.mem_of_mem_take hw
          rw [← ha] at hw
          have := (mem_fl hw).1
          rw [ok.2.2.2.2.1] at this
          simp at this
        · have hw := List.mem_of_mem_take hw
          rw [← hb] at hw
          have := (mem_fl hw).2
          omega
      · have hw := List.mem_of_mem_take hw
        rw [← hc] at hw
        have := (mem_fl hw).1
        rw [ok.2.2.2.2.2] at this
        simp at this
    · unfold lastW at hw
      simp only [List.mem_cons, List.not_mem_nil, or_false] at hw
      rcases hw with h | h | h | h | h | h | h | h
      · omega
      · omega
      · omega
      · omega
      · omega
      · subst h
        have := ev_pr ok.2.2.2.2.1 ok.2.2.1
        omega
      · subst h
        have z := ok.2.2.2.2.2
        rw [Int.emod_eq_of_lt (by omega) (by omega)] at z
        omega
      · omega
end K05

namespace K05
open PySem L2 MX
/-! ### the law -/
theorem z_late {i : Nat} {r : En → Rs (List Ag)} {e : En} : cLate i r e = match slot e i with
  | none => .bad
  | some _ => (r e).bind fun as e1 => (gName i e1).bind fun a e2 => .ok (a :: as) e2 := Eq.trans rfl rfl
section
variable {S : D} {o o1 o2 o3 p1 p2 p3 : List O} {q p d r a b : Int} {s1 s2 s3 s4 s5 s6 s7 : Sl}
theorem b1 (k : d__law_box [.d S, .d (.int 0)] = .ok (.lst o) [some (.d S), some (.d (.int 0))]) :
  (sAsg (dCallF d__law_box [0, 1] (cCons (gName 0) (cCons (gVal (dC (.int 0))) cNil))) (tName 1)) [.p (.d S), .no, .no, .no, .no, .no, .no, .no] = .nx [.p (.d S), .v (.lst o), .no, .no, .no, .no, .no, .no] := by
  simp [k]
theorem b2 (k : d__law_box [.d S, .d (.int 1)] = .ok (.lst o) [some (.d S), some (.d (.int 1))]) :
  (sAsg (dCallF d__law_box [0, 1] (cCons (gName 0) (cCons (gVal (dC (.int 1))) cNil))) (tName 2)) [.p (.d S), .v (.lst p1), .no, .no, .no, .no, .no, .no] = .nx [.p (.d S), .v (.lst p1), .v (.lst o), .no, .no, .no, .no, .no] := by
  simp [k]
theorem b3 (k : d__law_prime [.lst o, .d (.int 3), .d (.int 127)] = .ok (.d (.int q)) [some (.lst o1), some (.d (.int 3)), some (.d (.int 127))]) :
  (sAsg (dCallF d__law_prime [0, 1, 2] (cCons (gName 1) (cCons (gVal (dC (.int 3))) (cCons (gVal (dC (.int 127))) cNil)))) (tName 3)) [.p (.d S), .v (.lst o), .v (.lst p1), .no, .no, .no, .no, .no] = .nx [.p (.d S), .v (.lst o1), .v (.lst p1), .v (.d (.int q)), .no, .no, .no, .no] := by
  simp [k]
theorem b4 (k1 : d__law_right [.lst o, .d (.int q)] = .ok (.d (.bl true)) [some (.lst o1), none]) (k2 : d__law_draw [.lst p1, .d (.int 5)] = .ok (.d (.int d)) [some (.lst p2), some (.d (.int 5))])
  (hi : fIx (.lst [.d (.int 3), .d (.int 5), .d (.int 7), .d (.int 11), .d (.int 13)]) (.d (.int d)) = some (.d (.int r))) (k3 : d__law_right [.lst p2, .d (.int r)] = .ok (.d (.bl true)) [some (.lst p3), none]) :
  (sIf (dOrT (dNotT (dTst (dCallF d__law_right [0, 1] (cCons (gName 1) (cCons (gName 3) cNil))))) (dNotT (dTst (dCallF d__law_right [0, 1] (cLate 2 (cCons (gVal (dBin fIx (vT (dLst (aCons (dC (.int 3)) (aCons (dC (.int 5)) (aCons (dC (.int 7)) (aCons (dC (.int 11)) (aCons (dC (.int 13)) aNil))))))) (vT (dCallF d__law_draw [0, 1] (cCons (gName 2) (cCons (gVal (dC (.int 5))) cNil)))))) cNil)))))) (sRet (dC (.bl false))) sNext)
   [.p (.d S), .v (.lst o), .v (.lst p1), .v (.d (.int q)), .no, .no, .no, .no] = .nx [.p (.d S), .v (.lst o1), .v (.lst p3), .v (.d (.int q)), .no, .no, .no, .no] := by
  have z5 : (5 : Nat) ≤ sizeLine := by decide
  simp [k1, k2, k3, z_late, hi, z5]
theorem b5 (k : d__law_modulus [.lst p1, .d (.int q)] = .ok (.d (.int p)) [some (.lst p2), some (.d (.int q))]) :
  (sAsg (dCallF d__law_modulus [0, 1] (cCons (gName 2) (cCons (gName 3) cNil))) (tName 4)) [.p (.d S), .v (.lst o), .v (.lst p1), .v (.d (.int q)), .no, .no, .no, .no] = .nx [.p (.d S), .v (.lst o), .v (.lst p2), .v (.d (.int q)), .v (.d (.int p)), .no, .no, .no] := by
  simp [k]
abbrev woB : En → Out := (sIf (dNotT (dTst (dCallF d__law_is_refused [0, 1] (cCons (gName 4) (cCons (gName 5) cNil))))) (sRet (dC (.bl false))) sNext)
theorem wo_step (w : Int) (ds : List D) (R : Out) (h5 : s5.pinned = false) (k : ¬ OkPair p w) (h : sForL (tName 5) woB ds [s1, s2, s3, s4, .v (.d (.int p)), .v (.d (.int w)), s6, s7] = R) :
  sForL (tName 5) woB (.int w :: ds) [s1, s2, s3, s4, .v (.d (.int p)), s5, s6, s7] = R := by
  rw [u2]
  have v := v_ref p w k
  simp [h5, v, h]
theorem wo_loop : ∀ (ws : List Int) (s5 : Sl), s5.pinned = false → (∀ w ∈ ws, ¬ OkPair p w) → ∃ s5' : Sl, s5'.pinned = false ∧ sForL (tName 5) woB (ws.map .int) [s1, s2, s3, s4, .v (.d (.int p)), s5, s6, s7] = .nx [s1, s2, s3, s4, .v (.d (.int p)), s5', s6, s7]
  | [], s5, h5, _ => ⟨s5, h5, u1⟩
  | w :: ws, s5, h5, hw => by
    obtain ⟨t, ht, ih⟩ := wo_loop ws (.v (.d (.int w))) rfl fun x hx => hw x (List.mem_cons_of_mem _ hx)
    exact ⟨t, ht, wo_step w _ _ h5 (hw w (List.mem_cons_self ..)) ih⟩
theorem b6n : (sIf (dTst (dBin fGt (vS 4) (vT (dC (.int 0))))) (sFor (iAny (dCallF d__law_wrong_orders [0] (cCons (gName 4) cNil))) (tName 5) woB) sNext) [.p (.d S), .v (.lst o), .v (.lst p2), .v (.d (.int q)), .v (.d (.int 0)), .no, .no, .no] = .nx [.p (.d S), .v (.lst o), .v (.lst p2), .v (.d (.int q)), .v (.d (.int 0)), .no, .no, .no] := by
  simp
theorem b6 {B : En → Out} {ds : List D} {R : Out} (hp : 0 < p) (k : d__law_wrong_orders [.d (.int p)] = .ok (.lst (ds.map .d)) [some (.d (.int p))]) (h : sForL (tName 5) B ds [.p (.d S), .v (.lst o), .v (.lst p2), .v (.d (.int q)), .v (.d (.int p)), .no, .no, .no] = R) :
  (sIf (dTst (dBin fGt (vS 4) (vT (dC (.int 0))))) (sFor (iAny (dCallF d__law_wrong_orders [0] (cCons (gName 4) cNil))) (tName 5) B) sNext) [.p (.d S), .v (.lst o), .v (.lst p2), .v (.d (.int q)), .v (.d (.int p)), .no, .no, .no] = R := by
  simp [k, hp, h]
abbrev wmB : En → Out := (sIf (dNotT (dTst (dCallF d__law_is_refused [0, 1] (cCons (gName 6) (cCons (gName 3) cNil))))) (sRet (dC (.bl false))) sNext)
theorem wm_step (w : Int) (ds : List D) (R : Out) (h6 : s6.pinned = false) (k : ¬ OkPair w q) (h : sForL (tName 6) wmB ds [s1, s2, s3, .v (.d (.int q)), s4, s5, .v (.d (.int w)), s7] = R) :
  sForL (tName 6) wmB (.int w :: ds) [s1, s2, s3, .v (.d (.int q)), s4, s5, s6, s7] = R := by
  rw [u2]
  have v := v_ref w q k
  simp [h6, v, h]
theorem wm_loop : ∀ (ws : List Int) (s6 : Sl), s6.pinned = false → (∀ w ∈ ws, ¬ OkPair w q) → ∃ s6' : Sl, s6'.pinned = false ∧ sForL (tName 6) wmB (ws.map .int) [s1, s2, s3, .v (.d (.int q)), s4, s5, s6, s7] = .nx [s1, s2, s3, .v (.d (.int q)), s4, s5, s6', s7]
  | [], s6, h6, _ => ⟨s6, h6, u1⟩
  | w :: ws, s6, h6, hw => by
    obtain ⟨t, ht, ih⟩ := wm_loop ws (.v (.d (.int w))) rfl fun x hx => hw x (List.mem_cons_of_mem _ hx)
    exact ⟨t, ht, wm_step w _ _ h6 (hw w (List.mem_cons_self ..)) ih⟩
theorem pow18b : fPow (.d (.int 10)) (.d (.int 18)) = some (.d (.int 1000000000000000000)) := by rfl
def modW (a b q p : Int) : List Int := [a, b, 1, 0, -1, q, 2, 4, 999983, 1000000000000000000, 0 - p]
theorem b7 {B : En → Out} {R : Out} (k1 : d__law_composite [.lst p1, .d (.int q)] = .ok (.d (.int a)) [some (.lst p2), some (.d (.int q))]) (k2 : d__law_beyond [.lst p2, .d (.int q)] = .ok (.d (.int b)) [some (.lst p3), some (.d (.int q))])
  (h : sForL (tName 6) B ((modW a b q p).map .int) [.p (.d S), .v (.lst o), .v (.lst p3), .v (.d (.int q)), .v (.d (.int p)), s5, .no, .no] = R) :
  (sFor (iAny (dLst (aCons (dCallF d__law_composite [0, 1] (cCons (gName 2) (cCons (gName 3) cNil))) (aCons (dCallF d__law_beyond [0, 1] (cCons (gName 2) (cCons (gName 3) cNil))) (aCons (dC (.int 1)) (aCons (dC (.int 0)) (aCons (dUn fNeg (vT (dC (.int 1)))) (aCons (dVar 3) (aCons (dC (.int 2)) (aCons (dC (.int 4)) (aCons (dC (.int 999983)) (aCons (dBin fPow (vT (dC (.int 10))) (vT (dC (.int 18)))) (aCons (dBin fSub (vT (dC (.int 0))) (vS 4)) aNil))))))))))))) (tName 6) B)
   [.p (.d S), .v (.lst o), .v (.lst p1), .v (.d (.int q)), .v (.d (.int p)), s5, .no, .no] = R := by
  have z11 : (11 : Nat) ≤ sizeLine := by decide
  simp [modW] at h
  simp [k1, k2, pow18b, z11, h]
theorem b8 (k : d__law_great_order [.lst p1] = .ok (.d (.tup [.int a, .int b])) [some (.lst p2)]) :
  (sAsg (dCallF d__law_great_order [0] (cCons (gName 2) cNil)) (tName 7)) [.p (.d S), .v (.lst o), .v (.lst p1), s3, s4, s5, s6, .no] = .nx [.p (.d S), .v (.lst o), .v (.lst p2), s3, s4, s5, s6, .v (.d (.tup [.int a, .int b]))] := by
  simp [k]
theorem b9 (k : d__law_is_refused [.d (.int a), .d (.int b)] = .ok (.d (.bl true)) [some (.d (.int a)), some (.d (.int b))]) (k2 : p > 0 ∨ d__law_is_refused [.d (.int (1 + 2 * q)), .d (.int q)] = .ok (.d (.bl true)) [some (.d (.int (1 + 2 * q))), some (.d (.int q))]) :
  (sRet (dAndV (dCallF d__law_is_refused [0, 1] (cCons (gVal (dBin fIx (vS 7) (vT (dC (.int 0))))) (cCons (gVal (dBin fIx (vS 7) (vT (dC (.int 1))))) cNil))) (dOrV (dBin fGt (vS 4) (vT (dC (.int 0)))) (dCallF d__law_is_refused [0, 1] (cCons (gVal (dBin fAdd (vT (dC (.int 1))) (vT (dBin fMul (vT (dC (.int 2))) (vS 3))))) (cCons (gName 3) cNil))))))
   [.p (.d S), .v (.lst o), .v (.lst p1), .v (.d (.int q)), .v (.d (.int p)), s5, s6, .v (.d (.tup [.int a, .int b]))] = .rt (.d (.bl true)) [.p (.d S), .v (.lst o), .v (.lst p1), .v (.d (.int q)), .v (.d (.int p)), s5, s6, .v (.d (.tup [.int a, .int b]))] := by
  have i0 : fIx (.d (.tup [.int a, .int b])) (.d (.int 0)) = some (.d (.int a)) := rfl
  have i1 : fIx (.d (.tup [.int a, .int b])) (.d (.int 1)) = some (.d (.int b)) := rfl
  have sm2 : isSm 2 = true := by decide
  by_cases c : 0 < p
  · simp [i0, i1, k, c]
  · rcases k2 with k2 | k2
    · exact absurd k2 c
    · simp [i0, i1, k, c, y15 sm2, k2]
end
theorem small5 : ∀ i : Nat, i < 5 → ∃ r : Nat, fIx (.lst [.d (.int 3), .d (.int 5), .d (.int 7), .d (.int 11), .d (.int 13)]) (.d (.int (i : Int))) = some (.d (.int (r : Int))) ∧ isPrI (r : Int) = true ∧ 3 ≤ r ∧ r ≤ 127
  | 0, _ => ⟨3, rfl, by decide +kernel, by omega, by omega⟩
  | 1, _ => ⟨5, rfl, by decide +kernel, by omega, by omega⟩
  | 2, _ => ⟨7, rfl, by decide +kernel, by omega, by omega⟩
  | 3, _ => ⟨11, rfl, by decide +kernel, by omega, by omega⟩
  | 4, _ => ⟨13, rfl, by decide +kernel, by omega, by omega⟩
  | n + 5, h => absurd h (by omega)
theorem modW_bad {a b : Int} {q p : Nat} (ha : isPrI a = false) (hb : 1001 ≤ b) (h3 : 3 ≤ q) : ∀ w ∈ modW a b (q : Int) (p : Int), ¬ OkPair w (q : Int) := by
  intro w hw ok
  unfold OkPair at ok
  unfold modW at hw
  have lo : ¬ (w < 2) := fun z => by
    have := ok.2.1
    unfold isPrI at this
    rw [if_pos z] at this
    cases this
  simp only [List.mem_cons, List.not_mem_nil, or_false] at hw
  rcases hw with h | h | h | h | h | h | h | h | h | h | h
  · subst h
    rw [ha] at ok
    exact absurd ok.2.1 (by decide)
  · omega
  · omega
  · omega
  · omega
  · subst h
    have z := ok.2.2.2.2.2
    rw [Int.emod_eq_of_lt (by omega) (by omega)] at z
    omega
  · subst h
    have z := ok.2.2.2.2.2
    rw [Int.emod_eq_of_lt (by omega) (by omega)] at z
    omega
  · subst h
    exact absurd ok.2.1 (by decide +kernel)
  · omega
  · omega
  · omega
theorem law_body (ns : List Int) (hn : ns.length ≤ 63) : ∃ e, b_law [.p (.d (.lst (ns.map .int))), .no, .no, .no, .no, .no, .no, .no] = .rt (.d (.bl true)) (.p (.d (.lst (ns.map .int))) :: e) := by
  obtain ⟨o0, x0, k0⟩ := v_box ns hn 0 (by omega)
  obtain ⟨f0, y0, k1⟩ := v_box ns hn 1 (by omega)
  obtain ⟨q, o1, k2, x1, hq, h3, h4⟩ := v_lprime x0
  obtain ⟨o2, x2, k3⟩ := v_right x1 hq h3 h4
  obtain ⟨d, f1, k4, hd1, hd2, y1⟩ := draw_spec 5 y0 (by decide) (by decide)
  obtain ⟨dn, rfl⟩ := Int.eq_ofNat_of_zero_le hd1
  obtain ⟨r, hi, hr, r3, r4⟩ := small5 dn (by omega)
  obtain ⟨f2, y2, k5⟩ := v_right y1 hr r3 r4
  obtain ⟨p, f3, k6, y3, hp⟩ := v_lmod y2 h3 h4
  obtain ⟨a, f4, k7, y4, ha⟩ := v_lcomp y3 h3 h4
  obtain ⟨b, f5, k8, y5, hb⟩ := v_lbey y4 h3
  obtain ⟨u, v, f6, k9, y6, hv⟩ := v_lgreat y5
  have bad9 := v_ref u v (fun ok => by have := ok.2.2.2.1; omega)
  have ref2 : (p : Int) > 0 ∨ d__law_is_refused [.d (.int (1 + 2 * (q : Int))), .d (.int (q : Int))] = .ok (.d (.bl true)) [some (.d (.int (1 + 2 * (q : Int)))), some (.d (.int (q : Int)))] := by
    rcases hp with ⟨rfl, h⟩ | ⟨j, h, _⟩
    · exact .inr (v_ref _ _ fun ok => by have z := ok.2.1; rw [h] at z; cases z)
    · exact .inl (by omega)
  obtain ⟨s5, e6⟩ : ∃ s5 : Sl, (sIf (dTst (dBin fGt (vS 4) (vT (dC (.int 0))))) (sFor (iAny (dCallF d__law_wrong_orders [0] (cCons (gName 4) cNil))) (tName 5) woB) sNext) [.p (.d (.lst (ns.map .int))), .v (.lst o2), .v (.lst f3), .v (.d (.int (q : Int))), .v (.d (.int (p : Int))), .no, .no, .no] = .nx [.p (.d (.lst (ns.map .int))), .v (.lst o2), .v (.lst f3), .v (.d (.int (q : Int))), .v (.d (.int (p : Int))), s5, .no, .no] := by
    rcases hp with ⟨rfl, h⟩ | ⟨j, h, hle, hpr⟩
    · exact ⟨_, b6n⟩
    · have h5 : 5 ≤ p := by
        rcases Nat.eq_zero_or_pos j with z | z
        · subst z
          have : p = 1 + q := by omega
          have o1 := ev_pr hq (by omega)
          have o2 := ev_pr hpr (by omega)
          omega
        · have : q * 2 ≤ q * (1 + j) := Nat.mul_le_mul_left q (by omega)
          omega
      obtain ⟨ws, kw, hw⟩ := v_wo h5 hle hpr
      obtain ⟨s5', _, l⟩ := wo_loop (p := (p : Int)) (s1 := .p (.d (.lst (ns.map .int)))) (s2 := .v (.lst o2)) (s3 := .v (.lst f3)) (s4 := .v (.d (.int (q : Int)))) (s6 := .no) (s7 := .no) ws .no rfl hw
      exact ⟨s5', b6 (by omega) kw l⟩
  obtain ⟨s6, _, l6⟩ := wm_loop (q := (q : Int)) (s1 := .p (.d (.lst (ns.map .int)))) (s2 := .v (.lst o2)) (s3 := .v (.lst f5)) (s4 := .v (.d (.int (p : Int)))) (s5 := s5) (s7 := .no) (modW a b (q : Int) (p : Int)) .no rfl (modW_bad ha hb h3)
  apply Exists.intro
  unfold b_law
  refine seq_nx (b1 k0) ?_
  refine seq_nx (b2 k1) ?_
  refine seq_nx (b3 k2) ?_
  refine seq_nx (b4 k3 k4 hi k5) ?_
  refine seq_nx (b5 k6) ?_
  refine seq_nx e6 ?_
  refine seq_nx (b7 k7 k8 l6) ?_
  refine seq_nx (b8 k9) ?_
  exact b9 bad9 ref2
theorem dLaw (sc : O) (e : En) (h : b_law [.p sc, .no, .no, .no, .no, .no, .no, .no] = .rt (.d (.bl true)) (.p sc :: e)) : ∃ ps, d_law [sc] = .ok (.d (.bl true)) ps := by
  refine ⟨outE 1 (.p sc :: e), ?_⟩
  show denFn _ _ _ _ = _
  exact den_rt rfl h rfl
theorem value_law : ∀ ns : List Int, ns.length ≤ 63 → ∃ ps, d_law [.d (.lst (ns.map D.int))] = .ok (.d (.bl true)) ps := fun ns hn => by
  obtain ⟨e, h⟩ := law_body ns hn
  exact dLaw _ e h
end K05

open PySem PySem.W PyProof.Rows
set_option maxHeartbeats 0 in
theorem PySem.Challenge.cw_hushsheets_k05_power_groups_holds : PySem.Challenge.rw_hushsheets_k05_power_groups.Holds := by
  w_on; o_law; k_head; (case hw => w_witness2)
  k_fill
  refine L2.walk_of (l := PySem.Challenge.rw_hushsheets_k05_power_groups) (n := 63) (k := 10) (x := "script") (CX := fun w => L2.CX PySem.Challenge.rw_hushsheets_k05_power_groups.prog w) (sp := fun w => MX.spLaw _) rfl (by decide) rfl ⟨rfl, by decide, by decide⟩ (fun w h Y => PySem.W.kIn_of Y) ?F (fun _ _ a ns hl _ hS => ⟨a, ns, rfl, hS, hl, fun _ => rfl⟩) (fun _ _ _ _ _ ⟨_, _, _, _, _, _, _, _, _, _, _, _, h⟩ => h)
  case F =>
    intro w mg fa h KX G hmg
    refine' K05.all_mk KX G hmg ?gc_Group ?gc_PowerGroup ?a0 ?l0 ?c0 ?k0 ?a1 ?l1 ?c1 ?k1 ?a2 ?l2 ?c2 ?k2 ?a3 ?l3 ?c3 ?k3 ?a4 ?l4 ?c4 ?k4 ?a5 ?l5 ?c5 ?k5 ?a6 ?l6 ?c6 ?k6 ?a7 ?l7 ?c7 ?k7 ?a8 ?l8 ?c8 ?k8 ?a9 ?l9 ?c9 ?k9 ?a10 ?l10 ?c10 ?k10 ?a11 ?l11 ?c11 ?k11 ?a12 ?l12 ?c12 ?k12 ?a13 ?l13 ?c13 ?k13 ?a14 ?l14 ?c14 ?k14 ?a15 ?l15 ?c15 ?k15 ?a16 ?l16 ?c16 ?k16 ?hcc16 ?hco16 ?hcv16 ?hcf16 ?a17 ?l17 ?c17 ?k17 ?a18 ?l18 ?c18 ?k18 ?a19 ?l19 ?c19 ?k19 ?a20 ?l20 ?c20 ?k20 ?a21 ?l21 ?c21 ?k21 ?a22 ?l22 ?c22 ?k22 ?a23 ?l23 ?c23 ?k23 ?a24 ?l24 ?c24 ?k24 ?gc_BadGroup ?k_BadGroup ?q_BadGroup ?b_BadGroup ?t_BadGroup ?ehg_BadGroup ?ehk_BadGroup ?ehs_BadGroup ?ehd_BadGroup ?eha_BadGroup ?ehm_BadGroup ?cdt_PowerGroup ?top_super ?opq ?z_super ?mk1_PowerGroup ?mk2_PowerGroup ?mk3_PowerGroup ?mk4_PowerGroup ?pg_PowerGroup ?hd_PowerGroup ?po_PowerGroup ?sa_PowerGroup ?na_PowerGroup__exponents ?na_PowerGroup__powers ?na_PowerGroup_members ?na_PowerGroup_modulus ?na_PowerGroup_order ?na_PowerGroup_unit ?mt1_PowerGroup_has ?mt2_PowerGroup_has ?mt3_PowerGroup_has ?mt1_PowerGroup_inverse_of ?mt2_PowerGroup_inverse_of ?mt3_PowerGroup_inverse_of ?mt1_PowerGroup_multiply ?mt2_PowerGroup_multiply ?mt3_PowerGroup_multiply ?mt1_PowerGroup_power ?mt2_PowerGroup_power ?mt3_PowerGroup_power ?su1_PowerGroup_PowerGroup ?su2_PowerGroup_PowerGroup___init__ ?su3_PowerGroup_PowerGroup___init__ ?su4_PowerGroup_PowerGroup___init__ ?ki_PowerGroup_Group ?ica_PowerGroup ?ico_PowerGroup ?ihn ?iht ?ehn ?eht ?x_BadGroup_BadGroup ?z_all ?z_bool ?z_enumerate ?z_int ?z_isinstance ?z_len ?z_list ?z_range ?z_sorted ?z_str ?z_tuple ?nl K05.value_law
    (case gc_Group => k_is)
    (case gc_PowerGroup => k_is)
    (case a0 => k_is)
    (case l0 => k_is)
    (case c0 => k_is)
    (case k0 => k_is)
    (case a1 => k_is)
    (case l1 => k_is)
    (case c1 => k_is)
    (case k1 => k_is)
    (case a2 => k_is)
    (case l2 => k_is)
    (case c2 => k_is)
    (case k2 => k_is)
    (case a3 => k_is)
    (case l3 => k_is)
    (case c3 => k_is)
    (case k3 => k_is)
    (case a4 => k_is)
    (case l4 => k_is)
    (case c4 => k_is)
    (case k4 => k_is)
    (case a5 => k_is)
    (case l5 => k_is)
    (case c5 => k_is)
    (case k5 => k_is)
    (case a6 => k_is)
    (case l6 => k_is)
    (case c6 => k_is)
    (case k6 => k_is)
    (case a7 => k_is)
    (case l7 => k_is)
    (case c7 => k_is)
    (case k7 => k_is)
    (case a8 => k_is)
    (case l8 => k_is)
    (case c8 => k_is)
    (case k8 => k_is)
    (case a9 => k_is)
    (case l9 => k_is)
    (case c9 => k_is)
    (case k9 => k_is)
    (case a10 => k_is)
    (case l10 => k_is)
    (case c10 => k_is)
    (case k10 => k_is)
    (case a11 => k_is)
    (case l11 => k_is)
    (case c11 => k_is)
    (case k11 => k_is)
    (case a12 => k_is)
    (case l12 => k_is)
    (case c12 => k_is)
    (case k12 => k_is)
    (case a13 => k_is)
    (case l13 => k_is)
    (case c13 => k_is)
    (case k13 => k_is)
    (case a14 => k_is)
    (case l14 => k_is)
    (case c14 => k_is)
    (case k14 => k_is)
    (case a15 => k_is)
    (case l15 => k_is)
    (case c15 => k_is)
    (case k15 => k_is)
    (case a16 => k_is)
    (case l16 => k_is)
    (case c16 => k_is)
    (case k16 => k_is)
    (case hcc16 => first | k_is | kernel_rfl)
    (case hco16 => first | k_is | kernel_rfl)
    (case hcv16 => exact rfl)
    (case hcf16 => first | k_is | kernel_rfl)
    (case a17 => k_is)
    (case l17 => k_is)
    (case c17 => k_is)
    (case k17 => k_is)
    (case a18 => k_is)
    (case l18 => k_is)
    (case c18 => k_is)
    (case k18 => k_is)
    (case a19 => k_is)
    (case l19 => k_is)
    (case c19 => k_is)
    (case k19 => k_is)
    (case a20 => k_is)
    (case l20 => k_is)
    (case c20 => k_is)
    (case k20 => k_is)
    (case a21 => k_is)
    (case l21 => k_is)
    (case c21 => k_is)
    (case k21 => k_is)
    (case a22 => k_is)
    (case l22 => k_is)
    (case c22 => k_is)
    (case k22 => k_is)
    (case a23 => k_is)
    (case l23 => k_is)
    (case c23 => k_is)
    (case k23 => k_is)
    (case a24 => k_is)
    (case l24 => k_is)
    (case c24 => k_is)
    (case k24 => k_is)
    (case gc_BadGroup => k_is)
    (case k_BadGroup => k_is)
    (case q_BadGroup => kernel_rfl)
    (case b_BadGroup => k_is)
    (case t_BadGroup => k_is)
    (case ehg_BadGroup => k_is)
    (case ehk_BadGroup => k_is)
    (case ehs_BadGroup => k_is)
    (case ehd_BadGroup => k_is)
    (case eha_BadGroup => k_is)
    (case ehm_BadGroup => k_is)
    (case cdt_PowerGroup => first | k_is | kernel_rfl)
    (case top_super => first | k_is | kernel_rfl)
    (case opq => first | k_is | kernel_rfl)
    (case z_super => k_is)
    (case mk1_PowerGroup => k_is)
    (case mk2_PowerGroup => k_is)
    (case mk3_PowerGroup => k_is)
    (case mk4_PowerGroup => k_is)
    (case pg_PowerGroup => k_is)
    (case hd_PowerGroup => k_is)
    (case po_PowerGroup => k_is)
    (case sa_PowerGroup => k_is)
    (case na_PowerGroup__exponents => k_is)
    (case na_PowerGroup__powers => k_is)
    (case na_PowerGroup_members => k_is)
    (case na_PowerGroup_modulus => k_is)
    (case na_PowerGroup_order => k_is)
    (case na_PowerGroup_unit => k_is)
    (case mt1_PowerGroup_has => k_is)
    (case mt2_PowerGroup_has => k_is)
    (case mt3_PowerGroup_has => k_is)
    (case mt1_PowerGroup_inverse_of => k_is)
    (case mt2_PowerGroup_inverse_of => k_is)
    (case mt3_PowerGroup_inverse_of => k_is)
    (case mt1_PowerGroup_multiply => k_is)
    (case mt2_PowerGroup_multiply => k_is)
    (case mt3_PowerGroup_multiply => k_is)
    (case mt1_PowerGroup_power => k_is)
    (case mt2_PowerGroup_power => k_is)
    (case mt3_PowerGroup_power => k_is)
    (case su1_PowerGroup_PowerGroup => first | k_is | kernel_rfl)
    (case su2_PowerGroup_PowerGroup___init__ => first | k_is | kernel_rfl)
    (case su3_PowerGroup_PowerGroup___init__ => first | k_is | kernel_rfl)
    (case su4_PowerGroup_PowerGroup___init__ => first | k_is | kernel_rfl)
    (case ki_PowerGroup_Group => first | k_is | kernel_rfl)
    (case ica_PowerGroup => k_is)
    (case ico_PowerGroup => k_is)
    (case ihn => k_is)
    (case iht => k_is)
    (case ehn => k_is)
    (case eht => k_is)
    (case x_BadGroup_BadGroup => kernel_rfl)
    (case z_all => k_is)
    (case z_bool => k_is)
    (case z_enumerate => k_is)
    (case z_int => k_is)
    (case z_isinstance => k_is)
    (case z_len => k_is)
    (case z_list => k_is)
    (case z_range => k_is)
    (case z_sorted => k_is)
    (case z_str => k_is)
    (case z_tuple => k_is)
    (case nl => kernel_rfl)

