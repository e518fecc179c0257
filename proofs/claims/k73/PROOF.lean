import PyProof.Rows.All
import Wide.All
import OpenK.AllK
import Wide.FinOn
import HandS.ForMost
import HandS.ForExc
import HandS.TupAny
import HandS.TupMul
import HandS.Conv
import HandS.Wide
import HandS.Star
import HandS.CallSlots
import HandS.Zip
import HandS.Rev
import HandS.Comp
import HandS.Dict
import HandS.IsInst
import HandS.TryMany
import HandS.ExcIs
import KE.GoesEnum
import HandS.Steps
import HandS.SortInts
import HandS.WordsDict
import HandS.Small
import KE.KIndexOf
import PyProof.ExcBaseAll.ValueError
import PySem.Challenge.RW_hushsheets_k73_sources_and_settings
set_option Elab.async false
set_option linter.all false
set_option maxRecDepth 100000
set_option maxHeartbeats 4000000
/-! MXt: tuples tracked with their object (no dict): the kit's rules that make tuples, told anew. -/
namespace MX
open PySem L2 PySem.Spec PyProof.Rows
section
variable {X : Cx} {pos : Pos} {es : List Expr}
def tTupN (t : TA) : TE := fun σ H Q => t σ H fun xs H1 => xs.length ≤ sizeLine ∧ ∀ p o, H1 p = none → o.dict = none → Q (.ref p) (upd H1 p (.frz o (.tup xs)))
theorem pe_tupN {x1} {t : TA} (h : PA X es t) : PE X (.Tuple es x1 pos) (tTupN t) := by
  refine ⟨fun pins s σ H Q I hq => ?_⟩
  refine wpAny_Tuple_spliced (thn (h.run pos pins s σ H _ I hq) fun us s1 ⟨xs, H1, I1, r, z, q⟩ => ⟨by rw [← r.length]; exact z, ?_⟩)
  have hf : H1 s1.heap.objs.size = none := I1.hok.fresh (Nat.le_refl _)
  refine ⟨.ref s1.heap.objs.size, upd H1 s1.heap.objs.size (.frz { cls := .type "tuple", data := .seq us.toArray } (.tup xs)), I1.laid (t' := s1.toks) (fun b u e => Heap.get?_push_of_some _ e) (Nat.le_refl _) ?_, rfl, q _ _ hf rfl⟩
  exact ⟨Heap.get?_push_size _ rfl, z, us, r, ⟨_, Heap.get?_push_size _ rfl, rfl, _, rfl⟩⟩
def rTupOf (K : PySem.W.Frag) : List V → Hp → VK → Prop := fun xs H Q => ∃ p ys, xs = [.ref p] ∧ ((SqL K H p ys ∧ ∀ l o, H l = none → o.dict = none → Q (.ref l) (upd H l (.frz o (.tup ys)))) ∨ (SqT K H p ys ∧ Q (.ref p) H))
theorem call_tupleN : CallR X (.type "tuple") (rTupOf X.K) := by
  intro pins s σ H xs us Q I r h
  obtain ⟨p, ys, rfl, h⟩ := h
  obtain ⟨u, rfl, rx⟩ := vals1 r
  cases rx
  rcases h with ⟨hq, q⟩ | ⟨hq, q⟩
  · obtain ⟨its, r', pl, hz⟩ := I.list hq
    have hlen := r'.length
    refine call_tuple_list pl.isList (fun h' kp => ?_) (by simp only [List.size_toArray] <;> omega)
    have I1 : Inv X pins σ H { s with heap := h' } := I.kept (t' := s.toks) kp
    have I2 : Inv X pins σ (upd H h'.objs.size (.frz { cls := .type "tuple", data := .seq its.toArray } (.tup ys))) { s with heap := h'.push { cls := .type "tuple", data := .seq its.toArray } } :=
      I1.laid (t' := s.toks) (fun b o e => Heap.get?_push_of_some _ e) (Nat.le_refl _) ⟨Heap.get?_push_size _ rfl, hz, its, r', IsTup.new _ _⟩
    exact ⟨.ref h'.objs.size, _, I2, rfl, q _ _ (I1.hok.fresh (Nat.le_refl _)) rfl⟩
  · obtain ⟨its, r', pl, hz⟩ := I.tuple hq
    exact call_tuple_same pl ⟨.ref p, H, I, rfl, q⟩
def rCatN (K : PySem.W.Frag) : R2 := fun x y H Q => ∃ a b xs ys, x = .ref a ∧ y = .ref b ∧ SqT K H a xs ∧ SqT K H b ys ∧ xs.length + ys.length ≤ sizeLine ∧
  (xs = [] → Q (.ref b) H) ∧ (xs ≠ [] → ys = [] → Q (.ref a) H) ∧ (xs ≠ [] → ys ≠ [] → ∀ p o, H p = none → o.dict = none → Q (.ref p) (upd H p (.frz o (.tup (xs ++ ys)))))
theorem op_catN : OpR X (binaryOp .Add) (rCatN X.K) := by
  intro pins s σ H x y v u Q I rx ry h
  obtain ⟨a, b, xs, ys, rfl, rfl, ha, hb, hz, q0, q1, q2⟩ := h
  by_cases hx : xs = []
  · exact op_catA pins s σ H _ _ v u Q I rx ry ⟨a, b, xs, ys, rfl, rfl, ha, hb, hz, q0, q1, fun z => absurd hx z⟩
  · by_cases hy : ys = []
    · exact op_catA pins s σ H _ _ v u Q I rx ry ⟨a, b, xs, ys, rfl, rfl, ha, hb, hz, q0, q1, fun _ z => absurd hy z⟩
    · cases rx
      cases ry
      obtain ⟨its, r1, p1, _⟩ := I.tuple ha
      obtain ⟨its2, r2, p2, _⟩ := I.tuple hb
      refine HT.cat_tup p1 p2 (fun z => hx (r1.nil_iff.mp z)) (fun z => absurd (r2.nil_iff.mp z) hy) (fun z => ?_) (by rw [← r1.length, ← r2.length]; exact hz)
      refine ⟨.ref s.heap.objs.size, _, I.laid (t' := s.toks) (o := .frz _ (.tup (xs ++ ys))) (fun b ob q => Heap.get?_push_of_some _ q) (Nat.le_refl _) ⟨Heap.get?_push_size _ rfl, by rw [List.length_append]; exact hz, _, r1.append r2, IsTup.new _ _⟩, rfl, q2 hx hy _ _ (I.hok.fresh (Nat.le_refl _)) rfl⟩
def rSlN (K : PySem.W.Frag) : V → Option Int → Option Int → Hp → VK → Prop := fun x lo hi H Q => ∃ a xs, x = .ref a ∧ SqT K H a xs ∧
  (HT.sIx xs.length 0 lo = 0 ∧ HT.sIx xs.length xs.length hi = xs.length → Q (.ref a) H) ∧ (¬ (HT.sIx xs.length 0 lo = 0 ∧ HT.sIx xs.length xs.length hi = xs.length) → ∀ p o, H p = none → o.dict = none → Q (.ref p) (upd H p (.frz o (.tup (cutV xs lo hi)))))
theorem sl_tupN : SlR X (rSlN X.K) := by
  intro pins s σ H x v vl vu lo hi sl Q I rx hs pl pu h
  obtain ⟨a, xs, rfl, hx, q1, q2⟩ := h
  by_cases hw : HT.sIx xs.length 0 lo = 0 ∧ HT.sIx xs.length xs.length hi = xs.length
  · exact sl_tupA pins s σ H _ v vl vu lo hi sl Q I rx hs pl pu ⟨a, xs, rfl, hx, q1, fun z => absurd hw z⟩
  · cases rx
    obtain ⟨its, r, ht, hz⟩ := I.tuple hx
    have hlen : its.toArray.size = xs.length := by rw [List.size_toArray]; exact r.length.symm
    refine ⟨"tuple", _, PyProof.Rows.slot_tuple_getitem.lookup, ht.typeIs, ?_⟩
    refine HT.getItem_tuple_cut ht hs pl pu (by rw [hlen]; exact hw) ?_ (by rw [hlen]; exact hz)
    rw [hlen]
    refine ⟨.ref s.heap.objs.size, _, I.laid (t' := s.toks) (o := .frz _ (.tup (cutV xs lo hi))) (fun b ob q => Heap.get?_push_of_some _ q) (Nat.le_refl _) ⟨Heap.get?_push_size _ rfl, Nat.le_trans (cutV_length xs lo hi) hz, _, (r.drop (HT.sIx xs.length 0 lo)).take (HT.sIx xs.length xs.length hi - HT.sIx xs.length 0 lo), IsTup.new _ _⟩, rfl, q2 hw _ _ (I.hok.fresh (Nat.le_refl _)) rfl⟩
def rRepN (K : PySem.W.Frag) : R2 := fun x y H Q => ∃ l k xs, x = .ref l ∧ y = .int k ∧ SqT K H l xs ∧ xs ≠ [] ∧ 2 ≤ k ∧ k ≤ 1000 ∧ xs.length ≤ 1000 ∧ ∀ p o, H p = none → o.dict = none → Q (.ref p) (upd H p (.frz o (.tup (List.replicate k.toNat xs).flatten)))
theorem op_repN : OpR X (binaryOp .Mult) (rRepN X.K) := by
  intro pins s σ H x y v u Q I rx ry h
  obtain ⟨l, k, xs, rfl, rfl, hT, hne, h1, h2, hz, q⟩ := h
  cases rx
  obtain ⟨t, rfl⟩ := ry
  obtain ⟨its, r, ⟨⟨cls, dd, data, sl⟩, ho, hc, n, hd⟩, hs⟩ := I.tuple hT
  simp only at hc hd
  subst hc hd
  have hle : its.length = xs.length := r.length.symm
  have hn : its ≠ [] := fun e => hne (by
    rw [e] at hle
    exact List.eq_nil_of_length_eq_zero hle.symm)
  have hi : its.toArray.isEmpty = false := by
    cases its with
    | nil => exact absurd rfl hn
    | cons a b => rfl
  have hsz0 : its.toArray.size = xs.length := by rw [List.size_toArray, hle]
  have hm : ((its.toArray.size : Nat) : Int) * k ≤ 1000000 := by
    rw [hsz0]
    have a1 : ((xs.length : Nat) : Int) * k ≤ 1000 * k := Int.mul_le_mul_of_nonneg_right (by omega) (by omega)
    omega
  have flen : (List.replicate k.toNat its).flatten.length ≤ sizeLine := by
    rw [PyProof.Rows.lm_len_rep_flat, hle, sizeLine_eq]
    have a1 : k.toNat * xs.length ≤ 1000 * 1000 := Nat.mul_le_mul (by omega) hz
    omega
  have c0 : (decide (k < -(2 ^ 63)) || decide (k ≥ 2 ^ 63)) = false := by
    rw [decide_eq_false (by omega), decide_eq_false (by omega)] <;> rfl
  have c1 : (its.toArray.isEmpty || k == 1) = false := by
    rw [hi, Bool.false_or]
    exact beq_eq_false_iff_ne.mpr (by omega)
  have c2 : (decide (k ≤ 0) || its.toArray.isEmpty) = false := by
    rw [hi, Bool.or_false]
    exact decide_eq_false (by omega)
  have c4 : Builtin.Tuple.tupleTooMany (((its.toArray.size : Nat) : Int) * k) = false := by
    unfold Builtin.Tuple.tupleTooMany
    rw [sizeLine_eq]
    exact decide_eq_false (by omega)
  refine wpAny_binaryOp_repeat_ref (T := "tuple") (U := "int") (by decide) ⟨_, ho, rfl⟩ (fun s' => typeIs_int s' k t) noFill_tuple_mul F.fills_int_mul F.slot_int_rmul repeat_tuple F.slot_int_index.lookup
    (call_meets F.slot_int_rmul (typeIs_int s k t) F.entry_int_rmul (F.args_int_rmul_2 _ _) (int_rmul_tuple k t l its.toArray n dd sl)
      ⟨ho, rfl, ⟨_, ho, rfl⟩, call_meets F.slot_tuple_mul ⟨_, ho, rfl⟩ F.entry_tuple_mul (F.args_tuple_mul_2 _ _) (tuple_mulW l its.toArray n dd sl k t c0 c1 c2 (by omega) c4 (by rw [size_rep, List.size_toArray]; exact flen)) ⟨ho, ?_⟩⟩)
  rw [size_rep]
  refine ⟨.ref s.heap.objs.size, _, I.laid (t' := s.toks) (o := .frz { cls := .type "tuple", data := .seq (List.replicate k.toNat its).flatten.toArray } (.tup (List.replicate k.toNat xs).flatten)) (fun b ob q => Heap.get?_push_of_some _ q) (Nat.le_refl _) ?_, rfl, q _ _ (I.hok.fresh (Nat.le_refl _)) rfl⟩
  exact ⟨Heap.get?_push_size _ rfl, by rw [PyProof.Rows.lm_len_rep_flat, sizeLine_eq]; have a1 : k.toNat * xs.length ≤ 1000 * 1000 := Nat.mul_le_mul (by omega) hz; omega, _, r.rep k.toNat, IsTup.new _ _⟩
def tTupRgN (te : L2.St → Hp → (Int → Int → Hp → Prop) → Prop) : TE := fun σ H Q => te σ H fun a b H1 => RgOk a b ∧ ∀ q o, H1 q = none → o.dict = none → Q (.ref q) (upd H1 q (.frz o (.tup (rgV a b))))
theorem pe_tupRgN {e : Expr} {te} {p pos : Pos} (hc : X.calm = true) (hg : Gl X "tuple") (hm : X.mg "tuple" = none) (he : PRg X e te) (na : starEach [e] X.env = (false, eval e X.env) :: starEach [] X.env := by rfl) : PE X (.Call (.Name "tuple" p) [e] [] pos) (tTupRgN te) := by
  refine ⟨fun pins s σ H Q I h => ?_⟩
  refine Call_ (ld_blt I hg hm boot_tuple (PyProof.Rows.callWith_type1 (args_cons (thn (he pins s σ H _ I h) fun x s1 ⟨r, a, b, t, u, v, H1, ex, hr, I1, ok, q⟩ => args_nil ?_) na) na))
  subst ex
  obtain ⟨b1, b2, b3, b4, b5⟩ := ok
  refine call_tuple_range (n := (b - a).toNat) (I1.ok.hd hc) hr (small_one b1 b2 b3 b4) (rangeSize_nat a b) b5 fun h' tk acc hk hi => ?_
  have I2 : Inv X pins σ H1 { s1 with heap := h', toks := tk } := I1.kept hk
  refine ⟨.ref h'.objs.size, upd H1 h'.objs.size (.frz _ (.tup (rgV a b))), I2.laid (t' := tk) (fun c o e => Heap.get?_push_of_some _ e) (Nat.le_refl _) ⟨Heap.get?_push_size _ rfl, ?_, acc.toList, vals_rg hi, ?_⟩, rfl, q _ _ (I2.hok.fresh (Nat.le_refl _)) rfl⟩
  · rw [rgV_length, sizeLine_eq]; omega
  · rw [Array.toArray_toList]; exact IsTup.new _ _
/-- the tuple at a: tracked with its object, or written -/
def TupAt (K : PySem.W.Frag) (H : Hp) (a : Addr) (vs : List V) : Prop :=
  (∃ o, H a = some (.frz o (.tup vs)) ∧ o.dict = none) ∨ ((∃ o, K.lookup a = some o ∧ o.cls = .type "tuple" ∧ o.dict = none) ∧ ∀ H' : Hp, SqT K H' a vs)
theorem TupAt.sq {K : PySem.W.Frag} {H : Hp} {a : Addr} {vs : List V} (h : TupAt K H a vs) : SqT K H a vs := by
  rcases h with ⟨o, h, _⟩ | ⟨_, h⟩
  · exact .inl (.inr ⟨o, h⟩)
  · exact h H
theorem TupAt.nd {H : Hp} {a : Addr} {vs : List V} {pins : List (Addr × Obj)} {σ : L2.St} {s : Shared} (h : TupAt X.K H a vs) (I : Inv X pins σ H s) : s.TypeIs (.ref a) "tuple" ∧ ∃ ob, s.heap.get? a = some ob ∧ ob.dict = none := by
  rcases h with ⟨o, h, hd⟩ | ⟨⟨o, hk, hc, hd⟩, _⟩
  · obtain ⟨hg, hz, its, r, o', ho, hc, _⟩ := I.hok a _ h
    exact ⟨⟨o', ho, hc⟩, o, hg, hd⟩
  · have hg := I.kIn a o hk
    exact ⟨⟨o, hg, hc⟩, o, hg, hd⟩
end
end MX

/-! MX0: pure values D, ownership trees O, how they stand in the abstract heap, the state relation RS, the step relation Stp. -/
namespace MX
open PySem L2

/-- the written part, and where each own class stands -/
structure Wd where
  K : PySem.W.Frag
  cl : String → Option Addr
  /-- in an except suite: the slot of the exception's name, the exception -/
  ex : Option (Nat × Addr) := none

/-- a value that nobody changes any more -/
inductive D where
  | non | bl (b : Bool) | int (i : Int) | str (s : Str) | ty (n : String) | cls (n : String)
  | adr (a : Addr) | tup (xs : List D) | lst (xs : List D) | dic (ks : List Key) (xs : List D) | obj (c : String) (ns : List Str) (xs : List D)

/-- a value, its owned (so changeable) objects told -/
inductive O where
  | d (x : D) | lst (xs : List O) | dic (ks : List Key) (xs : List O) | obj (c : String) (ns : List Str) (xs : List O)

mutual
def O.fz : O → D
  | .d x => x
  | .lst xs => .lst (fzs xs)
  | .dic ks xs => .dic ks (fzs xs)
  | .obj c ns xs => .obj c ns (fzs xs)
def fzs : List O → List D
  | [] => []
  | o :: os => o.fz :: fzs os
end
theorem fzs_leaf : ∀ xs : List D, fzs (xs.map O.d) = xs
  | [] => rfl
  | x :: xs => by show x :: fzs (xs.map O.d) = x :: xs; rw [fzs_leaf xs]
theorem fzs_map : ∀ xs : List O, fzs xs = xs.map O.fz
  | [] => rfl
  | x :: xs => by show x.fz :: fzs xs = x.fz :: xs.map O.fz; rw [fzs_map xs]
theorem fzs_append (xs ys : List O) : fzs (xs ++ ys) = fzs xs ++ fzs ys := by rw [fzs_map, fzs_map, fzs_map, List.map_append]
theorem fzs_length (xs : List O) : (fzs xs).length = xs.length := by rw [fzs_map, List.length_map]

mutual
def RD (W : Wd) (H : Hp) (Z : Addr → Prop) : D → V → Prop
  | .non, v => v = .non
  | .bl b, v => v = .bl b
  | .int i, v => v = .int i
  | .str s, v => v = .str s
  | .ty n, v => v = .ty n
  | .cls n, v => ∃ a, W.cl n = some a ∧ v = .ref a
  | .adr a, v => v = .ref a
  | .tup xs, v => ∃ a vs, v = .ref a ∧ TupAt W.K H a vs ∧ RDs W H Z xs vs
  | .lst xs, v => ∃ a vs, v = .ref a ∧ (Z a ∧ Rd H a (.lst vs)) ∧ RDs W H Z xs vs
  | .dic ks xs, v => ∃ (a : Addr) (kvs : List (Key × V)), v = .ref a ∧ Z a ∧ Rd H a (.dK kvs) ∧ kvs.map (·.1) = ks ∧ ks.Nodup ∧ RDs W H Z xs (kvs.map (·.2))
  | .obj c ns xs, v => ∃ (a C dx : Addr) (fs : List (Str × V)), v = .ref a ∧ Z a ∧ W.cl c = some C ∧ H a = some (.ins C dx fs) ∧ fs.map (·.1) = ns ∧ RDs W H Z xs (fs.map (·.2))
def RDs (W : Wd) (H : Hp) (Z : Addr → Prop) : List D → List V → Prop
  | [], vs => vs = []
  | d :: ds, vs => ∃ v r, vs = v :: r ∧ RD W H Z d v ∧ RDs W H Z ds r
end

mutual
def RO (W : Wd) (H : Hp) (Z : Addr → Prop) : O → V → List Addr → Prop
  | .d x, v, fp => RD W H Z x v ∧ fp = []
  | .lst xs, v, fp => ∃ a vs fp', v = .ref a ∧ H a = some (.lst vs) ∧ fp = a :: fp' ∧ ROs W H Z xs vs fp'
  | .dic ks xs, v, fp => ∃ (a : Addr) (kvs : List (Key × V)) (fp' : List Addr), v = .ref a ∧ H a = some (.dK kvs) ∧ kvs.map (·.1) = ks ∧ ks.Nodup ∧ fp = a :: fp' ∧ ROs W H Z xs (kvs.map (·.2)) fp'
  | .obj c ns xs, v, fp => ∃ (a C dx : Addr) (fs : List (Str × V)) (fp' : List Addr), v = .ref a ∧ W.cl c = some C ∧ H a = some (.ins C dx fs) ∧ fs.map (·.1) = ns ∧ fp = a :: fp' ∧ ROs W H Z xs (fs.map (·.2)) fp'
def ROs (W : Wd) (H : Hp) (Z : Addr → Prop) : List O → List V → List Addr → Prop
  | [], vs, fp => vs = [] ∧ fp = []
  | o :: os, vs, fp => ∃ v r f1 f2, vs = v :: r ∧ fp = f1 ++ f2 ∧ RO W H Z o v f1 ∧ ROs W H Z os r f2
end

def REnv (W : Wd) (H : Hp) (Z : Addr → Prop) : List (Option O) → St → List Addr → Prop
  | [], σ, fp => σ = [] ∧ fp = []
  | none :: e, σ, fp => ∃ x r, σ = x :: r ∧ REnv W H Z e r fp
  | some o :: e, σ, fp => ∃ v r f1 f2, σ = some v :: r ∧ fp = f1 ++ f2 ∧ RO W H Z o v f1 ∧ REnv W H Z e r f2

/-! ### keeping -/
/-- what RD leans on is kept -/
structure Kp (H : Hp) (Z : Addr → Prop) (H' : Hp) (Z' : Addr → Prop) : Prop where
  z : ∀ a, Z a → Z' a
  zk : ∀ a o, Z a → H a = some o → H' a = some o
  tp : ∀ a xs, H a = some (.tup xs) → H' a = some (.tup xs)
  fr : ∀ a o u, H a = some (.frz o u) → H' a = some (.frz o u)
theorem Kp.refl {H : Hp} {Z : Addr → Prop} : Kp H Z H Z := ⟨fun _ h => h, fun _ _ _ h => h, fun _ _ h => h, fun _ _ _ h => h⟩
theorem Kp.zmono {H : Hp} {Z Z' : Addr → Prop} (h : ∀ a, Z a → Z' a) : Kp H Z H Z' := ⟨h, fun _ _ _ h => h, fun _ _ h => h, fun _ _ _ h => h⟩
section
variable {W : Wd} {H H' : Hp} {Z Z' : Addr → Prop}
theorem Kp.rdT (k : Kp H Z H' Z') {a : Addr} {xs : List V} (h : Rd H a (.tup xs)) : Rd H' a (.tup xs) := by
  rcases h with h | ⟨o, h⟩
  · exact .inl (k.tp _ _ h)
  · exact .inr ⟨o, k.fr _ _ _ h⟩
theorem Kp.rdZ (k : Kp H Z H' Z') {a : Addr} {u : HO} (z : Z a) (h : Rd H a u) : Rd H' a u := by
  rcases h with h | ⟨o, h⟩
  · exact .inl (k.zk _ _ z h)
  · exact .inr ⟨o, k.fr _ _ _ h⟩
mutual
theorem RD.keep (k : Kp H Z H' Z') : ∀ (d : D) (v : V), RD W H Z d v → RD W H' Z' d v
  | .non, _, h => h
  | .bl _, _, h => h
  | .int _, _, h => h
  | .str _, _, h => h
  | .ty _, _, h => h
  | .cls _, _, h => h
  | .adr _, _, h => h
  | .tup xs, v, ⟨a, vs, e, h, r⟩ => ⟨a, vs, e, h.imp (fun ⟨o, x, n⟩ => ⟨o, k.fr _ _ _ x, n⟩) id, RDs.keep k xs vs r⟩
  | .lst xs, v, ⟨a, vs, e, h, r⟩ => ⟨a, vs, e, ⟨k.z _ h.1, k.rdZ h.1 h.2⟩, RDs.keep k xs vs r⟩
  | .dic ks xs, v, ⟨a, kvs, e, z, h, r1, nd, r⟩ => ⟨a, kvs, e, k.z _ z, k.rdZ z h, r1, nd, RDs.keep k xs _ r⟩
  | .obj c ns xs, v, ⟨a, C, dx, fs, e, z, hc, h, r1, r⟩ => ⟨a, C, dx, fs, e, k.z _ z, hc, k.zk _ _ z h, r1, RDs.keep k xs _ r⟩
theorem RDs.keep (k : Kp H Z H' Z') : ∀ (ds : List D) (vs : List V), RDs W H Z ds vs → RDs W H' Z' ds vs
  | [], _, h => h
  | d :: ds, vs, ⟨v, r, e, h1, h2⟩ => ⟨v, r, e, RD.keep k d v h1, RDs.keep k ds r h2⟩
end
mutual
theorem RO.keep (k : Kp H Z H' Z') : ∀ (o : O) (v : V) (fp : List Addr), RO W H Z o v fp → (∀ a ∈ fp, ∀ u, H a = some u → H' a = some u) → RO W H' Z' o v fp
  | .d x, v, fp, ⟨h, e⟩, _ => ⟨h.keep k x v, e⟩
  | .lst xs, v, fp, ⟨a, vs, f', e, h, ef, r⟩, kf => ⟨a, vs, f', e, kf a (by rw [ef]; exact List.mem_cons_self) _ h, ef, ROs.keep k xs vs f' r fun b hb => kf b (by rw [ef]; exact List.mem_cons_of_mem _ hb)⟩
  | .dic ks xs, v, fp, ⟨a, kvs, f', e, h, e1, nd, ef, r⟩, kf => ⟨a, kvs, f', e, kf a (by rw [ef]; exact List.mem_cons_self) _ h, e1, nd, ef, ROs.keep k xs _ f' r fun b hb => kf b (by rw [ef]; exact List.mem_cons_of_mem _ hb)⟩
  | .obj c ns xs, v, fp, ⟨a, C, dx, fs, f', e, hc, h, e1, ef, r⟩, kf => ⟨a, C, dx, fs, f', e, hc, kf a (by rw [ef]; exact List.mem_cons_self) _ h, e1, ef, ROs.keep k xs _ f' r fun b hb => kf b (by rw [ef]; exact List.mem_cons_of_mem _ hb)⟩
theorem ROs.keep (k : Kp H Z H' Z') : ∀ (os : List O) (vs : List V) (fp : List Addr), ROs W H Z os vs fp → (∀ a ∈ fp, ∀ u, H a = some u → H' a = some u) → ROs W H' Z' os vs fp
  | [], _, _, h, _ => h
  | o :: os, vs, fp, ⟨v, r, f1, f2, e, ef, h1, h2⟩, kf =>
    ⟨v, r, f1, f2, e, ef, RO.keep k o v f1 h1 fun a ha => kf a (by rw [ef]; exact List.mem_append_left _ ha), ROs.keep k os r f2 h2 fun a ha => kf a (by rw [ef]; exact List.mem_append_right _ ha)⟩
end
theorem REnv.keep (k : Kp H Z H' Z') : ∀ (e : List (Option O)) (σ : St) (fp : List Addr), REnv W H Z e σ fp → (∀ a ∈ fp, ∀ u, H a = some u → H' a = some u) → REnv W H' Z' e σ fp
  | [], _, _, h, _ => h
  | none :: e, σ, fp, ⟨x, r, es, h⟩, kf => ⟨x, r, es, REnv.keep k e r fp h kf⟩
  | some o :: e, σ, fp, ⟨v, r, f1, f2, es, ef, h1, h2⟩, kf =>
    ⟨v, r, f1, f2, es, ef, RO.keep k o v f1 h1 fun a ha => kf a (by rw [ef]; exact List.mem_append_left _ ha), REnv.keep k e r f2 h2 fun a ha => kf a (by rw [ef]; exact List.mem_append_right _ ha)⟩
/-! ### another suite -/
def Wd.un (W : Wd) : Wd := ⟨W.K, W.cl, none⟩
structure Wx (W W' : Wd) : Prop where
  k : W.K = W'.K
  c : W.cl = W'.cl
mutual
theorem RD.wx {W W' : Wd} (k : Wx W W') : ∀ (d : D) (v : V), RD W H Z d v → RD W' H Z d v
  | .non, _, h => h
  | .bl _, _, h => h
  | .int _, _, h => h
  | .str _, _, h => h
  | .ty _, _, h => h
  | .cls _, _, ⟨a, h, e⟩ => ⟨a, by rw [← k.c]; exact h, e⟩
  | .adr _, _, h => h
  | .tup xs, v, ⟨a, vs, e, h, r⟩ => ⟨a, vs, e, by rw [← k.k]; exact h, RDs.wx k xs vs r⟩
  | .lst xs, v, ⟨a, vs, e, h, r⟩ => ⟨a, vs, e, h, RDs.wx k xs vs r⟩
  | .dic ks xs, v, ⟨a, kvs, e, z, h, r1, nd, r⟩ => ⟨a, kvs, e, z, h, r1, nd, RDs.wx k xs _ r⟩
  | .obj c ns xs, v, ⟨a, C, dx, fs, e, z, hc, h, r1, r⟩ => ⟨a, C, dx, fs, e, z, by rw [← k.c]; exact hc, h, r1, RDs.wx k xs _ r⟩
theorem RDs.wx {W W' : Wd} (k : Wx W W') : ∀ (ds : List D) (vs : List V), RDs W H Z ds vs → RDs W' H Z ds vs
  | [], _, h => h
  | d :: ds, vs, ⟨v, r, e, h1, h2⟩ => ⟨v, r, e, RD.wx k d v h1, RDs.wx k ds r h2⟩
end
mutual
theorem RO.wx {W W' : Wd} (k : Wx W W') : ∀ (o : O) (v : V) (fp : List Addr), RO W H Z o v fp → RO W' H Z o v fp
  | .d x, v, fp, ⟨h, e⟩ => ⟨h.wx k x v, e⟩
  | .lst xs, v, fp, ⟨a, vs, f', e, h, ef, r⟩ => ⟨a, vs, f', e, h, ef, ROs.wx k xs vs f' r⟩
  | .dic ks xs, v, fp, ⟨a, kvs, f', e, h, e1, nd, ef, r⟩ => ⟨a, kvs, f', e, h, e1, nd, ef, ROs.wx k xs _ f' r⟩
  | .obj c ns xs, v, fp, ⟨a, C, dx, fs, f', e, hc, h, e1, ef, r⟩ => ⟨a, C, dx, fs, f', e, by rw [← k.c]; exact hc, h, e1, ef, ROs.wx k xs _ f' r⟩
theorem ROs.wx {W W' : Wd} (k : Wx W W') : ∀ (os : List O) (vs : List V) (fp : List Addr), ROs W H Z os vs fp → ROs W' H Z os vs fp
  | [], _, _, h => h
  | o :: os, vs, fp, ⟨v, r, f1, f2, e, ef, h1, h2⟩ => ⟨v, r, f1, f2, e, ef, RO.wx k o v f1 h1, ROs.wx k os r f2 h2⟩
end
theorem REnv.wx {W W' : Wd} (k : Wx W W') : ∀ (e : List (Option O)) (σ : St) (fp : List Addr), REnv W H Z e σ fp → REnv W' H Z e σ fp
  | [], _, _, h => h
  | none :: e, σ, fp, ⟨x, r, es, h⟩ => ⟨x, r, es, REnv.wx k e r fp h⟩
  | some o :: e, σ, fp, ⟨v, r, f1, f2, es, ef, h1, h2⟩ => ⟨v, r, f1, f2, es, ef, RO.wx k o v f1 h1, REnv.wx k e r f2 h2⟩
/-! owned becomes known -/
mutual
theorem RO.frozen (hz : ∀ a, Z a → Z' a) : ∀ (o : O) (v : V) (fp : List Addr), RO W H Z o v fp → (∀ a ∈ fp, Z' a) → RD W H Z' o.fz v
  | .d x, v, fp, ⟨h, _⟩, _ => h.keep (Kp.zmono hz) x v
  | .lst xs, v, fp, ⟨a, vs, f', e, h, ef, r⟩, kf => ⟨a, vs, e, ⟨kf a (by rw [ef]; exact List.mem_cons_self), .inl h⟩, ROs.frozen hz xs vs f' r fun b hb => kf b (by rw [ef]; exact List.mem_cons_of_mem _ hb)⟩
  | .dic ks xs, v, fp, ⟨a, kvs, f', e, h, e1, nd, ef, r⟩, kf => ⟨a, kvs, e, kf a (by rw [ef]; exact List.mem_cons_self), .inl h, e1, nd, ROs.frozen hz xs _ f' r fun b hb => kf b (by rw [ef]; exact List.mem_cons_of_mem _ hb)⟩
  | .obj c ns xs, v, fp, ⟨a, C, dx, fs, f', e, hc, h, e1, ef, r⟩, kf => ⟨a, C, dx, fs, e, kf a (by rw [ef]; exact List.mem_cons_self), hc, h, e1, ROs.frozen hz xs _ f' r fun b hb => kf b (by rw [ef]; exact List.mem_cons_of_mem _ hb)⟩
theorem ROs.frozen (hz : ∀ a, Z a → Z' a) : ∀ (os : List O) (vs : List V) (fp : List Addr), ROs W H Z os vs fp → (∀ a ∈ fp, Z' a) → RDs W H Z' (fzs os) vs
  | [], _, _, ⟨e, _⟩, _ => e
  | o :: os, vs, fp, ⟨v, r, f1, f2, e, ef, h1, h2⟩, kf =>
    ⟨v, r, e, RO.frozen hz o v f1 h1 fun a ha => kf a (by rw [ef]; exact List.mem_append_left _ ha), ROs.frozen hz os r f2 h2 fun a ha => kf a (by rw [ef]; exact List.mem_append_right _ ha)⟩
end
/-! ### lists of values -/
theorem ROs.len : ∀ {os : List O} {vs : List V} {fp : List Addr}, ROs W H Z os vs fp → os.length = vs.length
  | [], _, _, ⟨e, _⟩ => by rw [e]; rfl
  | o :: os, vs, fp, ⟨v, r, f1, f2, e, ef, h1, h2⟩ => by rw [e, List.length_cons, List.length_cons, ROs.len h2]
theorem RDs.len : ∀ {ds : List D} {vs : List V}, RDs W H Z ds vs → ds.length = vs.length
  | [], _, e => by rw [show _ = [] from e]; rfl
  | o :: os, vs, ⟨v, r, e, h1, h2⟩ => by rw [e, List.length_cons, List.length_cons, RDs.len h2]
theorem RDs.get : ∀ {ds : List D} {vs : List V} {i : Nat} {d : D}, RDs W H Z ds vs → ds[i]? = some d → ∃ v, vs[i]? = some v ∧ RD W H Z d v
  | [], _, _, _, _, e => by simp at e
  | d :: ds, vs, 0, d', ⟨v, r, e, h1, h2⟩, e' => by
    have : d = d' := Option.some.inj e'
    subst this; exact ⟨v, by rw [e]; rfl, h1⟩
  | d :: ds, vs, i + 1, d', ⟨v, r, e, h1, h2⟩, e' => by
    obtain ⟨x, hx, hr⟩ := RDs.get (i := i) h2 e'
    exact ⟨x, by rw [e]; exact hx, hr⟩
theorem RDs.getV : ∀ {ds : List D} {vs : List V} {i : Nat} {v : V}, RDs W H Z ds vs → vs[i]? = some v → ∃ d, ds[i]? = some d ∧ RD W H Z d v
  | [], _, _, _, e, e' => by rw [show _ = [] from e] at e'; simp at e'
  | d :: ds, vs, 0, v', ⟨v, r, e, h1, h2⟩, e' => by
    rw [e] at e'
    have : v = v' := Option.some.inj e'
    subst this; exact ⟨d, rfl, h1⟩
  | d :: ds, vs, i + 1, v', ⟨v, r, e, h1, h2⟩, e' => by
    rw [e] at e'
    obtain ⟨x, hx, hr⟩ := RDs.getV (i := i) h2 e'
    exact ⟨x, hx, hr⟩
theorem RDs.append : ∀ {ds es : List D} {vs us : List V}, RDs W H Z ds vs → RDs W H Z es us → RDs W H Z (ds ++ es) (vs ++ us)
  | [], _, _, _, e, h => by rw [show _ = [] from e]; exact h
  | d :: ds, es, vs, us, ⟨v, r, e, h1, h2⟩, h => ⟨v, r ++ us, by rw [e]; rfl, h1, RDs.append h2 h⟩
theorem RDs.ros : ∀ {ds : List D} {vs : List V}, RDs W H Z ds vs → ROs W H Z (ds.map O.d) vs []
  | [], _, e => ⟨e, rfl⟩
  | d :: ds, vs, ⟨v, r, e, h1, h2⟩ => ⟨v, r, [], [], e, rfl, ⟨h1, rfl⟩, RDs.ros h2⟩
theorem ROs.append : ∀ {os ps : List O} {vs us : List V} {f g : List Addr}, ROs W H Z os vs f → ROs W H Z ps us g → ROs W H Z (os ++ ps) (vs ++ us) (f ++ g)
  | [], _, _, _, _, _, ⟨e, ef⟩, h => by rw [e, ef]; exact h
  | o :: os, ps, vs, us, f, g, ⟨v, r, f1, f2, e, ef, h1, h2⟩, h => ⟨v, r ++ us, f1, f2 ++ g, by rw [e]; rfl, by rw [ef, List.append_assoc], h1, ROs.append h2 h⟩
theorem ROs.split : ∀ {os ps : List O} {ws : List V} {f : List Addr}, ROs W H Z (os ++ ps) ws f → ∃ vs us f1 f2, ws = vs ++ us ∧ f = f1 ++ f2 ∧ ROs W H Z os vs f1 ∧ ROs W H Z ps us f2
  | [], ps, ws, f, h => ⟨[], ws, [], f, rfl, rfl, ⟨rfl, rfl⟩, h⟩
  | o :: os, ps, ws, f, ⟨v, r, f1, f2, e, ef, h1, h2⟩ => by
    obtain ⟨vs, us, g1, g2, e', ef', a, b⟩ := ROs.split h2
    exact ⟨v :: vs, us, f1 ++ g1, g2, by rw [e, e']; rfl, by rw [ef, ef', List.append_assoc], ⟨v, vs, f1, g1, rfl, rfl, h1, a⟩, b⟩
theorem ROs.one {o : O} {v : V} {f : List Addr} (h : RO W H Z o v f) : ROs W H Z [o] [v] f := ⟨v, [], f, [], rfl, (List.append_nil f).symm, h, rfl, rfl⟩
theorem ROs.getO : ∀ {os : List O} {vs : List V} {f : List Addr} {i : Nat} {o : O}, ROs W H Z os vs f → os[i]? = some o → ∃ v f1 f2 f3, vs[i]? = some v ∧ f = f1 ++ f2 ++ f3 ∧ RO W H Z o v f2
  | [], _, _, _, _, _, e => by simp at e
  | p :: os, vs, f, 0, o, ⟨v, r, f1, f2, e, ef, h1, h2⟩, e' => by
    have : p = o := Option.some.inj e'
    subst this; exact ⟨v, [], f1, f2, by rw [e]; rfl, by rw [ef]; rfl, h1⟩
  | p :: os, vs, f, i + 1, o, ⟨v, r, f1, f2, e, ef, h1, h2⟩, e' => by
    obtain ⟨x, g1, g2, g3, hx, eg, hr⟩ := ROs.getO (i := i) h2 e'
    exact ⟨x, f1 ++ g1, g2, g3, by rw [e]; exact hx, by rw [ef, eg]; simp, hr⟩
/-- one place replaced -/
theorem ROs.setO : ∀ {os : List O} {vs : List V} {f : List Addr} {i : Nat} {o o' : O} {v' : V} {g : List Addr}, ROs W H Z os vs f → os[i]? = some o → RO W H Z o' v' g →
    ∃ f1 f2 f3, f = f1 ++ f2 ++ f3 ∧ ROs W H Z (os.set i o') (vs.set i v') (f1 ++ g ++ f3)
  | [], _, _, _, _, _, _, _, _, e, _ => by simp at e
  | p :: os, vs, f, 0, o, o', v', g, ⟨v, r, f1, f2, e, ef, h1, h2⟩, e', h => by
    refine ⟨[], f1, f2, by rw [ef]; rfl, ?_⟩
    rw [e]
    exact ⟨v', r, g, f2, rfl, by simp, h, h2⟩
  | p :: os, vs, f, i + 1, o, o', v', g, ⟨v, r, f1, f2, e, ef, h1, h2⟩, e', h => by
    obtain ⟨g1, g2, g3, eg, hr⟩ := ROs.setO (i := i) h2 e' h
    refine ⟨f1 ++ g1, g2, g3, by rw [ef, eg]; simp, ?_⟩
    rw [e]
    exact ⟨v, r.set i v', f1, g1 ++ g ++ g3, rfl, by simp, h1, hr⟩
theorem REnv.len : ∀ {e : List (Option O)} {σ : St} {f : List Addr}, REnv W H Z e σ f → e.length = σ.length
  | [], _, _, ⟨e, _⟩ => by rw [e]; rfl
  | none :: e, _, _, ⟨x, r, es, h⟩ => by rw [es, List.length_cons, List.length_cons, REnv.len h]
  | some o :: e, _, _, ⟨v, r, f1, f2, es, ef, h1, h2⟩ => by rw [es, List.length_cons, List.length_cons, REnv.len h2]
theorem REnv.get : ∀ {e : List (Option O)} {σ : St} {f : List Addr} {i : Nat} {o : O}, REnv W H Z e σ f → e[i]? = some (some o) → ∃ v f1 f2 f3, σ[i]? = some (some v) ∧ f = f1 ++ f2 ++ f3 ∧ RO W H Z o v f2
  | [], _, _, _, _, _, e' => by simp at e'
  | none :: e, _, _, 0, _, _, e' => by simp at e'
  | some p :: e, σ, f, 0, o, ⟨v, r, f1, f2, es, ef, h1, h2⟩, e' => by
    have : p = o := Option.some.inj (Option.some.inj e')
    subst this; exact ⟨v, [], f1, f2, by rw [es]; rfl, by rw [ef]; rfl, h1⟩
  | none :: e, σ, f, i + 1, o, ⟨x, r, es, h⟩, e' => by
    obtain ⟨v, f1, f2, f3, hv, ef, hr⟩ := REnv.get (i := i) h e'
    exact ⟨v, f1, f2, f3, by rw [es]; exact hv, ef, hr⟩
  | some p :: e, σ, f, i + 1, o, ⟨v, r, f1, f2, es, ef, h1, h2⟩, e' => by
    obtain ⟨x, g1, g2, g3, hx, eg, hr⟩ := REnv.get (i := i) h2 e'
    exact ⟨x, f1 ++ g1, g2, g3, by rw [es]; exact hx, by rw [ef, eg]; simp, hr⟩
/-- a slot set (its old tree goes) -/
theorem REnv.set : ∀ {e : List (Option O)} {σ : St} {f : List Addr} {i : Nat} {o : O} {v : V} {g : List Addr}, REnv W H Z e σ f → i < e.length → RO W H Z o v g →
    ∃ f1 f2 f3, f = f1 ++ f2 ++ f3 ∧ REnv W H Z (e.set i (some o)) (σ.set i (some v)) (f1 ++ g ++ f3)
  | [], _, _, _, _, _, _, _, hi, _ => absurd hi (Nat.not_lt_zero _)
  | none :: e, σ, f, 0, o, v, g, ⟨x, r, es, h⟩, _, ho => ⟨[], [], f, rfl, by rw [es]; exact ⟨v, r, g, f, rfl, by simp, ho, h⟩⟩
  | some p :: e, σ, f, 0, o, v, g, ⟨x, r, f1, f2, es, ef, h1, h2⟩, _, ho => ⟨[], f1, f2, by rw [ef]; rfl, by rw [es]; exact ⟨v, r, g, f2, rfl, by simp, ho, h2⟩⟩
  | none :: e, σ, f, i + 1, o, v, g, ⟨x, r, es, h⟩, hi, ho => by
    obtain ⟨f1, f2, f3, ef, hr⟩ := REnv.set (i := i) h (Nat.lt_of_succ_lt_succ hi) ho
    exact ⟨f1, f2, f3, ef, by rw [es]; exact ⟨x, _, rfl, hr⟩⟩
  | some p :: e, σ, f, i + 1, o, v, g, ⟨x, r, f1, f2, es, ef, h1, h2⟩, hi, ho => by
    obtain ⟨g1, g2, g3, eg, hr⟩ := REnv.set (i := i) h2 (Nat.lt_of_succ_lt_succ hi) ho
    refine ⟨f1 ++ g1, g2, g3, by rw [ef, eg]; simp, ?_⟩
    rw [es]
    exact ⟨x, r.set i (some v), f1, g1 ++ g ++ g3, rfl, by simp, h1, hr⟩
/-- a slot forgotten; its tree is handed out -/
theorem REnv.drop : ∀ {e : List (Option O)} {σ : St} {f : List Addr} {i : Nat} {o : O}, REnv W H Z e σ f → e[i]? = some (some o) →
    ∃ v f1 f2 f3, σ[i]? = some (some v) ∧ f = f1 ++ f2 ++ f3 ∧ RO W H Z o v f2 ∧ REnv W H Z (e.set i none) σ (f1 ++ f3)
  | [], _, _, _, _, _, e' => by simp at e'
  | none :: e, _, _, 0, _, _, e' => by simp at e'
  | some p :: e, σ, f, 0, o, ⟨v, r, f1, f2, es, ef, h1, h2⟩, e' => by
    have : p = o := Option.some.inj (Option.some.inj e')
    subst this; exact ⟨v, [], f1, f2, by rw [es]; rfl, by rw [ef]; rfl, h1, ⟨some v, r, es, h2⟩⟩
  | none :: e, σ, f, i + 1, o, ⟨x, r, es, h⟩, e' => by
    obtain ⟨v, f1, f2, f3, hv, ef, hr, h3⟩ := REnv.drop (i := i) h e'
    exact ⟨v, f1, f2, f3, by rw [es]; exact hv, ef, hr, ⟨x, r, es, h3⟩⟩
  | some p :: e, σ, f, i + 1, o, ⟨v, r, f1, f2, es, ef, h1, h2⟩, e' => by
    obtain ⟨x, g1, g2, g3, hx, eg, hr, h3⟩ := REnv.drop (i := i) h2 e'
    exact ⟨x, f1 ++ g1, g2, g3, by rw [es]; exact hx, by rw [ef, eg]; simp, hr, ⟨v, r, f1, g1 ++ g3, es, by simp, h1, h3⟩⟩
/-- a forgotten slot, its value told again -/
theorem REnv.back : ∀ {e : List (Option O)} {σ : St} {f : List Addr} {i : Nat} {o : O} {v : V} {g : List Addr}, REnv W H Z e σ f → e[i]? = some none → σ[i]? = some (some v) → RO W H Z o v g →
    ∃ f1 f3, f = f1 ++ f3 ∧ REnv W H Z (e.set i (some o)) σ (f1 ++ g ++ f3)
  | [], _, _, _, _, _, _, _, e', _, _ => by simp at e'
  | some p :: e, _, _, 0, _, _, _, _, e', _, _ => by simp at e'
  | none :: e, σ, f, 0, o, v, g, ⟨x, r, es, h⟩, _, hv, ho => by
    rw [es] at hv
    have : x = some v := Option.some.inj hv
    subst this
    exact ⟨[], f, rfl, ⟨v, r, g, f, es, by simp, ho, h⟩⟩
  | none :: e, σ, f, i + 1, o, v, g, ⟨x, r, es, h⟩, e', hv, ho => by
    rw [es] at hv
    obtain ⟨f1, f3, ef, hr⟩ := REnv.back (i := i) h e' hv ho
    exact ⟨f1, f3, ef, ⟨x, r, es, hr⟩⟩
  | some p :: e, σ, f, i + 1, o, v, g, ⟨x, r, f1, f2, es, ef, h1, h2⟩, e', hv, ho => by
    rw [es] at hv
    obtain ⟨g1, g3, eg, hr⟩ := REnv.back (i := i) h2 e' hv ho
    exact ⟨f1 ++ g1, g3, by rw [ef, eg]; simp, ⟨x, r, f1, g1 ++ g ++ g3, es, by simp, h1, hr⟩⟩
end
end MX

/-! MX1: slots, results, the state relation, steps. -/
namespace MX
open PySem L2

/-- the own classes, and the exception that an except suite holds -/
structure Cl where
  f : String → Option Addr
  ex : Option (Nat × Addr) := none
/-- a slot: nothing known; a value; a pinned parameter's value; a pinned parameter that is lent -/
inductive Sl where
  | no | v (o : O) | p (o : O) | pn
abbrev En := List Sl
def Sl.cont : Sl → Option O
  | .v o => some o
  | .p o => some o
  | _ => none
def Sl.lent : Sl → Sl
  | .v _ => .no
  | .p _ => .pn
  | s => s
def Sl.put : Sl → O → Sl
  | .p _, o => .p o
  | .pn, o => .p o
  | _, o => .v o
def Sl.pinned : Sl → Bool
  | .p _ => true
  | .pn => true
  | _ => false

/-- a result -/
inductive Rs (α : Type) where
  | ok (x : α) (e : En)
  | exc (c : String) (ps : List (Str × D)) (e : En)
  | bad
def Rs.bind {α β : Type} : Rs α → (α → En → Rs β) → Rs β
  | .ok x e, f => f x e
  | .exc c ps e, _ => .exc c ps e
  | .bad, _ => .bad
/-- a statement's result -/
inductive Out where
  | nx (e : En) | rt (o : O) (e : En) | bk (e : En) | ct (e : En) | exc (c : String) (ps : List (Str × D)) (e : En) | bad
/-- a def's result -/
inductive RF where
  | ok (o : O) (ps : List (Option O))
  | exc (c : String) (ps : List (Str × D)) (qs : List (Option O))
  | bad
abbrev Den := List O → RF

abbrev Ts := List (O × V)
structure RS (W : Wd) (Z F : Addr → Prop) (P : Nat → V) (e : En) (T : Ts) (σ : L2.St) (H : Hp) : Prop where
  ex : ∃ fe ft, REnv W H Z (e.map Sl.cont) σ fe ∧ ROs W H Z (T.map (·.1)) (T.map (·.2)) ft ∧ (fe ++ ft).Nodup ∧ ∀ a ∈ fe ++ ft, F a
  sep : ∀ a, F a → ¬ Z a
  zin : ∀ a, Z a → H a ≠ none
  fin : ∀ a, F a → Mut (H a)
  pin : ∀ (i : Nat) (s : Sl), e[i]? = some s → s.pinned = true → σ[i]? = some (some (P i))
  px : ∀ (i : Nat) (a : Addr), W.ex = some (i, a) → P i = .ref a

structure Stp (Z F : Addr → Prop) (H : Hp) (Z' F' : Addr → Prop) (H' : Hp) : Prop where
  z : ∀ a, Z a → Z' a
  keep : ∀ a o, H a = some o → ¬ F a → H' a = some o
  dom : ∀ a, H a ≠ none → H' a ≠ none
  f' : ∀ a, F' a → F a ∨ H a = none
  z' : ∀ a, Z' a → Z a ∨ F a ∨ H a = none
section
variable {W : Wd} {Z F Z' F' Z2 F2 : Addr → Prop} {P : Nat → V} {e e' : En} {T T' : Ts} {σ σ' : L2.St} {H H' H2 : Hp}
theorem Stp.refl : Stp Z F H Z F H := ⟨fun _ h => h, fun _ _ h _ => h, fun _ h => h, fun _ h => .inl h, fun _ h => .inl h⟩
theorem Stp.trans (s : Stp Z F H Z' F' H') (t : Stp Z' F' H' Z2 F2 H2) : Stp Z F H Z2 F2 H2 := by
  refine ⟨fun a h => t.z a (s.z a h), fun a o h hf => t.keep a o (s.keep a o h hf) fun h' => ?_, fun a h => t.dom a (s.dom a h), fun a h => ?_, fun a h => ?_⟩
  · rcases s.f' a h' with q | q
    · exact hf q
    · rw [h] at q; cases q
  · rcases t.f' a h with q | q
    · exact s.f' a q
    · right
      cases r : H a with
      | none => rfl
      | some o => exact absurd q (s.dom a (by rw [r]; simp))
  · rcases t.z' a h with q | q | q
    · exact s.z' a q
    · rcases s.f' a q with q | q
      · exact .inr (.inl q)
      · exact .inr (.inr q)
    · right; right
      cases r : H a with
      | none => rfl
      | some o => exact absurd q (s.dom a (by rw [r]; simp))
theorem notMut_tup {a : Addr} {xs : List V} (h : H a = some (.tup xs)) : ¬ Mut (H a) := by rw [h]; exact fun z => z
theorem notMut_frz {a : Addr} {o : Obj} {u : HO} (h : H a = some (.frz o u)) : ¬ Mut (H a) := by rw [h]; exact fun z => z
theorem notMut_none {a : Addr} (h : H a = none) : ¬ Mut (H a) := by rw [h]; exact fun z => z
theorem kp_of (sep : ∀ a, F a → ¬ Z a) (fin : ∀ a, F a → Mut (H a)) (s : Stp Z F H Z' F' H') : Kp H Z H' Z' :=
  ⟨s.z, fun a o z h => s.keep a o h fun hf => sep a hf z, fun a xs h => s.keep a _ h fun hf => notMut_tup h (fin a hf), fun a o u h => s.keep a _ h fun hf => notMut_frz h (fin a hf)⟩
theorem RS.kp (r : RS W Z F P e T σ H) (s : Stp Z F H Z' F' H') : Kp H Z H' Z' := kp_of r.sep r.fin s
/-- F may be told smaller, as long as the owned ones are in it -/
theorem RS.fewer (r : RS W Z F P e T σ H) {fe ft : List Addr} (h1 : REnv W H Z (e.map Sl.cont) σ fe) (h2 : ROs W H Z (T.map (·.1)) (T.map (·.2)) ft) : True := trivial
/-- a heap that only grew, with new tracked things -/
theorem RS.grow (r : RS W Z F P e T σ H) (k : ∀ a o, H a = some o → H' a = some o) : RS W Z F P e T σ H' := by
  obtain ⟨⟨fe, ft, h1, h2, nd, hF⟩, sep, zin, fin, pin, px⟩ := r
  have kp : Kp H Z H' Z := ⟨fun _ h => h, fun a o _ h => k a o h, fun a _ h => k a _ h, fun a _ _ h => k a _ h⟩
  refine ⟨⟨fe, ft, h1.keep kp _ _ _ fun a _ u q => k a u q, h2.keep kp _ _ _ fun a _ u q => k a u q, nd, hF⟩, sep, fun a z q => ?_, fun a f => ?_, pin, px⟩
  · cases x : H a with
    | none => exact zin a z x
    | some o => rw [k a o x] at q; cases q
  · cases x : H a with
    | none => exact absurd (fin a f) (notMut_none x)
    | some o => rw [k a o x, ← x]; exact fin a f
theorem same_upd {p : Addr} {o : HO} (hp : H p = none) : ∀ a u, H a = some u → upd H p o a = some u := fun a u h => by rw [upd_ne (ne_of_none h hp)]; exact h
theorem dom_upd {p : Addr} {o : HO} : ∀ a, H a ≠ none → upd H p o a ≠ none := fun a h q => by
  by_cases e : a = p
  · subst e; rw [upd_same] at q; cases q
  · rw [upd_ne e] at q; exact h q
theorem Stp.alloc {p : Addr} {o : HO} (hp : H p = none) : Stp Z F H Z F (upd H p o) :=
  ⟨fun _ h => h, fun a u h _ => same_upd hp a u h, dom_upd, fun _ h => .inl h, fun _ h => .inl h⟩
/-- a new address becomes owned -/
theorem Stp.allocF {p : Addr} {o : HO} (hp : H p = none) : Stp Z F H Z (fun a => F a ∨ a = p) (upd H p o) :=
  ⟨fun _ h => h, fun a u h _ => same_upd hp a u h, dom_upd, fun a h => h.elim .inl fun z => .inr (by rw [z]; exact hp), fun _ h => .inl h⟩
theorem RS.pop {x : O × V} (r : RS W Z F P e (x :: T) σ H) : RS W Z F P e T σ H := by
  obtain ⟨⟨fe, ft, h1, ⟨v, rr, f1, f2, ev, ef, h2, h3⟩, nd, hF⟩, sep, zin, fin, pin, px⟩ := r
  have e1 : T.map (·.2) = rr := (List.cons.inj ev).2
  subst e1
  refine ⟨⟨fe, f2, h1, h3, ?_, fun a ha => hF a ?_⟩, sep, zin, fin, pin, px⟩
  · rw [ef] at nd
    refine nd.sublist (List.Sublist.append_left ?_ _)
    exact List.sublist_append_right _ _
  · rw [ef]
    rcases List.mem_append.mp ha with q | q
    · exact List.mem_append_left _ q
    · exact List.mem_append_right _ (List.mem_append_right _ q)
theorem RS.push {x : D} {v : V} (r : RS W Z F P e T σ H) (h : RD W H Z x v) : RS W Z F P e ((.d x, v) :: T) σ H := by
  obtain ⟨⟨fe, ft, h1, h2, nd, hF⟩, sep, zin, fin, pin, px⟩ := r
  exact ⟨⟨fe, ft, h1, ⟨v, _, [], ft, rfl, rfl, ⟨h, rfl⟩, h2⟩, nd, hF⟩, sep, zin, fin, pin, px⟩
theorem RS.top {o : O} {v : V} (r : RS W Z F P e ((o, v) :: T) σ H) : ∃ f, RO W H Z o v f ∧ ∀ a ∈ f, F a := by
  obtain ⟨⟨fe, ft, h1, ⟨v', rr, f1, f2, ev, ef, h2, h3⟩, nd, hF⟩, sep, zin, fin, pin, px⟩ := r
  have e0 : v = v' := (List.cons.inj ev).1
  subst e0
  exact ⟨f1, h2, fun a ha => hF a (by rw [ef]; exact List.mem_append_right _ (List.mem_append_left _ ha))⟩
theorem RS.topD {x : D} {v : V} (r : RS W Z F P e ((.d x, v) :: T) σ H) : RD W H Z x v := by
  obtain ⟨f, ⟨h, _⟩, _⟩ := r.top
  exact h
/-- the order of the held values does not matter -/
theorem ROs.perm {W : Wd} {H : Hp} {Z : Addr → Prop} {T T' : Ts} (p : T.Perm T') : ∀ {f : List Addr}, ROs W H Z (T.map (·.1)) (T.map (·.2)) f → ∃ g, ROs W H Z (T'.map (·.1)) (T'.map (·.2)) g ∧ f.Perm g := by
  induction p with
  | nil => exact fun {f} h => ⟨f, h, .refl _⟩
  | cons x p ih =>
    intro f ⟨v, r, f1, f2, ev, ef, h1, h2⟩
    have e1 := (List.cons.inj ev).2
    subst e1
    obtain ⟨g, hg, pg⟩ := ih h2
    have e0 : x.2 = v := (List.cons.inj ev).1
    exact ⟨f1 ++ g, ⟨v, _, f1, g, by rw [← e0]; rfl, rfl, h1, hg⟩, by rw [ef]; exact pg.append_left _⟩
  | swap x y l =>
    intro f ⟨v, r, f1, f2, ev, ef, h1, ⟨v2, r2, g1, g2, ev2, ef2, h3, h4⟩⟩
    have e0 : y.2 = v := (List.cons.inj ev).1
    have e1 := (List.cons.inj ev).2
    subst e1
    have e2 : x.2 = v2 := (List.cons.inj ev2).1
    have e3 := (List.cons.inj ev2).2
    subst e3
    refine ⟨g1 ++ (f1 ++ g2), ⟨v2, _, g1, f1 ++ g2, by rw [← e2]; rfl, rfl, h3, ⟨v, _, f1, g2, by rw [← e0]; rfl, rfl, h1, h4⟩⟩, ?_⟩
    rw [ef, ef2, ← List.append_assoc, ← List.append_assoc]
    exact List.Perm.append_right _ List.perm_append_comm
  | trans _ _ ih1 ih2 =>
    intro f h
    obtain ⟨g, hg, p1⟩ := ih1 h
    obtain ⟨g', hg', p2⟩ := ih2 hg
    exact ⟨g', hg', p1.trans p2⟩
theorem RS.perm (r : RS W Z F P e T σ H) (p : T.Perm T') : RS W Z F P e T' σ H := by
  obtain ⟨⟨fe, ft, h1, h2, nd, hF⟩, sep, zin, fin, pin, px⟩ := r
  obtain ⟨g, hg, pg⟩ := ROs.perm p h2
  have pp : (fe ++ ft).Perm (fe ++ g) := pg.append_left _
  exact ⟨⟨fe, g, h1, hg, pp.nodup nd, fun a ha => hF a (pp.mem_iff.mpr ha)⟩, sep, zin, fin, pin, px⟩
/-- the topmost held value is made known -/
theorem RS.freeze {o : O} {v : V} (r : RS W Z F P e ((o, v) :: T) σ H) : ∃ Z' F', Stp Z F H Z' F' H ∧ RS W Z' F' P e ((.d o.fz, v) :: T) σ H := by
  obtain ⟨⟨fe, ft, h1, ⟨v', rr, f1, f2, ev, ef, h2, h3⟩, nd, hF⟩, sep, zin, fin, pin, px⟩ := r
  have e0 : v = v' := (List.cons.inj ev).1
  have e1 : T.map (·.2) = rr := (List.cons.inj ev).2
  subst e0 e1
  have f1F : ∀ a ∈ f1, F a := fun a ha => hF a (by rw [ef]; exact List.mem_append_right _ (List.mem_append_left _ ha))
  rw [ef] at nd
  have nd' : (fe ++ f2).Nodup := nd.sublist (List.Sublist.append_left (List.sublist_append_right _ _) _)
  have out : ∀ a ∈ fe ++ f2, a ∉ f1 := by
    intro a ha h
    rcases List.mem_append.mp ha with q | q
    · exact (List.nodup_append.mp nd).2.2 a q a (List.mem_append_left _ h) rfl
    · exact (List.nodup_append.mp (List.nodup_append.mp nd).2.1).2.2 a h a q rfl
  have kp : Kp H Z H (fun a => Z a ∨ a ∈ f1) := Kp.zmono fun a h => .inl h
  refine ⟨fun a => Z a ∨ a ∈ f1, fun a => F a ∧ a ∉ f1, ⟨fun a h => .inl h, fun a u h _ => h, fun a h => h, fun a h => .inl h.1, fun a h => h.imp id fun q => .inl (f1F a q)⟩, ⟨⟨fe, f2, h1.keep kp _ _ _ fun _ _ _ q => q, ⟨v, _, [], f2, rfl, rfl, ⟨h2.frozen (fun a h => .inl h) _ _ _ fun a h => .inr h, rfl⟩, h3.keep kp _ _ _ fun _ _ _ q => q⟩, nd', fun a ha => ⟨hF a ?_, out a ha⟩⟩, fun a h z => ?_, fun a h => ?_, fun a h => fin a h.1, pin, px⟩⟩
  · rw [ef]
    rcases List.mem_append.mp ha with q | q
    · exact List.mem_append_left _ q
    · exact List.mem_append_right _ (List.mem_append_right _ q)
  · rcases z with z | z
    · exact sep a h.1 z
    · exact h.2 z
  · rcases h with h | h
    · exact zin a h
    · exact fun q => absurd (fin a (f1F a h)) (notMut_none q)
end
end MX

/-! MX2: the judgements HE, HV, HT, HA over expressions; constants, names, operators, displays. -/
namespace MX
open PySem L2

/-- a payload of an exception: nothing, or its own dict -/
def Pay (W : Wd) (H : Hp) (Z : Addr → Prop) (ps : List (Str × D)) (dd : Option Addr) : Prop :=
  (ps = [] ∧ dd = none) ∨ ∃ d fs, ps ≠ [] ∧ dd = some d ∧ H d = some (.xd fs) ∧ fs.map (·.1) = ps.map (·.1) ∧ RDs W H Z (ps.map (·.2)) (fs.map (·.2))
theorem Pay.wx {W W' : Wd} (k : Wx W W') {H : Hp} {Z : Addr → Prop} {ps : List (Str × D)} {dd : Option Addr} (h : Pay W H Z ps dd) : Pay W' H Z ps dd := by
  rcases h with h | ⟨d, fs, a, b, c, m, r⟩
  · exact .inl h
  · exact .inr ⟨d, fs, a, b, c, m, RDs.wx k _ _ r⟩
/-- what is wanted of an exception -/
def XOk (W : Wd) (Wo : WX) (Z F : Addr → Prop) (P : Nat → V) (T : Ts) (σ : L2.St) (H : Hp) (c : String) (ps : List (Str × D)) (e : En) : Prop :=
  ∀ Z' F' H' C dd, W.cl c = some C → Pay W H' Z' ps dd → Stp Z F H Z' F' H' → RS W Z' F' P e T σ H' → Wo (.ref C) dd σ H'
def PostE (W : Wd) (Wo : WX) (Z F : Addr → Prop) (P : Nat → V) (T : Ts) (σ : L2.St) (H : Hp) (Q : VK) : Rs O → Prop
  | .ok o e => ∀ v Z' F' H', Stp Z F H Z' F' H' → RS W Z' F' P e ((o, v) :: T) σ H' → Q v H'
  | .exc c ps e => XOk W Wo Z F P T σ H c ps e
  | .bad => False
def rdE (W : Wd) (Wo : WX) (d : En → Rs O) : TE := fun σ H Q => ∃ Z F P e T, RS W Z F P e T σ H ∧ PostE W Wo Z F P T σ H Q (d e)
/-- an operand: a value made, or a slot that is looked at -/
inductive Ar where
  | t (o : O) | s (i : Nat)
def slot (e : En) (i : Nat) : Option O := e[i]?.bind Sl.cont
def Ar.get (e : En) : Ar → Option O
  | .t o => some o
  | .s i => slot e i
def Ar.tmp : Ar → V → Ts
  | .t o, v => [(o, v)]
  | .s _, _ => []
def Ar.at (σ : L2.St) : Ar → V → Prop
  | .t _, _ => True
  | .s i, v => σ[i]? = some (some v)
def PostV (W : Wd) (Wo : WX) (Z F : Addr → Prop) (P : Nat → V) (T : Ts) (σ : L2.St) (H : Hp) (Q : VK) : Rs Ar → Prop
  | .ok x e => ∀ v Z' F' H', Stp Z F H Z' F' H' → RS W Z' F' P e (x.tmp v ++ T) σ H' → x.at σ v → Q v H'
  | .exc c ps e => XOk W Wo Z F P T σ H c ps e
  | .bad => False
def rdV (W : Wd) (Wo : WX) (d : En → Rs Ar) : TE := fun σ H Q => ∃ Z F P e T, RS W Z F P e T σ H ∧ PostV W Wo Z F P T σ H Q (d e)
def PostT (W : Wd) (Wo : WX) (Z F : Addr → Prop) (P : Nat → V) (T : Ts) (σ : L2.St) (H : Hp) (Q : Bool → Hp → Prop) : Rs Bool → Prop
  | .ok b e => ∀ Z' F' H', Stp Z F H Z' F' H' → RS W Z' F' P e T σ H' → Q b H'
  | .exc c ps e => XOk W Wo Z F P T σ H c ps e
  | .bad => False
def rdT (W : Wd) (Wo : WX) (d : En → Rs Bool) : TT := fun σ H Q => ∃ Z F P e T, RS W Z F P e T σ H ∧ PostT W Wo Z F P T σ H Q (d e)
def PostA (W : Wd) (Wo : WX) (Z F : Addr → Prop) (P : Nat → V) (T : Ts) (σ : L2.St) (H : Hp) (Q : List V → Hp → Prop) : Rs (List O) → Prop
  | .ok os e => ∀ vs Z' F' H', os.length = vs.length → Stp Z F H Z' F' H' → RS W Z' F' P e (os.zip vs ++ T) σ H' → Q vs H'
  | .exc c ps e => XOk W Wo Z F P T σ H c ps e
  | .bad => False
def rdA (W : Wd) (Wo : WX) (d : En → Rs (List O)) : TA := fun σ H Q => ∃ Z F P e T, RS W Z F P e T σ H ∧ PostA W Wo Z F P T σ H Q (d e)

abbrev Cx.wd (X : Cx) (cl : Cl) : Wd := ⟨X.K, cl.f, cl.ex⟩
def HE (X : Cx) (cl : Cl) (Wo : WX) (e : Expr) (d : En → Rs O) : Prop := PE X e (rdE (Cx.wd X cl) Wo d)
def HV (X : Cx) (cl : Cl) (Wo : WX) (e : Expr) (d : En → Rs Ar) : Prop := PE X e (rdV (Cx.wd X cl) Wo d)
def HT (X : Cx) (cl : Cl) (Wo : WX) (e : Expr) (d : En → Rs Bool) : Prop := PT X e (rdT (Cx.wd X cl) Wo d)
def HA (X : Cx) (cl : Cl) (Wo : WX) (es : List Expr) (d : En → Rs (List O)) : Prop := PA X es (rdA (Cx.wd X cl) Wo d)

theorem PE.imp {X : Cx} {e : Expr} {t t' : TE} (h : PE X e t) (k : ∀ σ H Q, t' σ H Q → t σ H Q) : PE X e t' := ⟨fun pins s σ H Q I q => h.run pins s σ H Q I (k σ H Q q)⟩
theorem PT.imp {X : Cx} {e : Expr} {t t' : TT} (h : PT X e t) (k : ∀ σ H Q, t' σ H Q → t σ H Q) : PT X e t' := ⟨fun pins s σ H Q I q => h.run pins s σ H Q I (k σ H Q q)⟩
theorem PW.imp {X : Cx} {e : Expr} {t t' : TT} (h : PW X e t) (k : ∀ σ H Q, t' σ H Q → t σ H Q) : PW X e t' := ⟨fun wh pins s σ H Q I q => h.run wh pins s σ H Q I (k σ H Q q)⟩
theorem PA.imp {X : Cx} {e : List Expr} {t t' : TA} (h : PA X e t) (k : ∀ σ H Q, t' σ H Q → t σ H Q) : PA X e t' := ⟨fun pos pins s σ H Q I q => h.run pos pins s σ H Q I (k σ H Q q)⟩

section
variable {X : Cx} {cl : Cl} {Wo : WX} {pos : Pos}
variable {W : Wd} {Z F Z' F' : Addr → Prop} {P : Nat → V} {e : En} {T : Ts} {σ : L2.St} {H H' : Hp} {Q : VK}

/-! ### helpers -/
theorem XOk.step (s : Stp Z F H Z' F' H') {c ps} (h : XOk W Wo Z F P T σ H c ps e) : XOk W Wo Z' F' P T σ H' c ps e :=
  fun Z2 F2 H2 C dd hc py s2 r => h Z2 F2 H2 C dd hc py (s.trans s2) r
theorem XOk.popped {x : O × V} {c ps} (h : XOk W Wo Z F P T σ H c ps e) : XOk W Wo Z F P (x :: T) σ H c ps e :=
  fun Z2 F2 H2 C dd hc py s2 r => h Z2 F2 H2 C dd hc py s2 r.pop
theorem slot_get (r : RS W Z F P e T σ H) {i : Nat} {o : O} (h : slot e i = some o) : ∃ v f, σ[i]? = some (some v) ∧ RO W H Z o v f ∧ ∀ a ∈ f, F a := by
  obtain ⟨⟨fe, ft, h1, h2, nd, hF⟩, _⟩ := r
  have e1 : (e.map Sl.cont)[i]? = some (some o) := by
    rw [List.getElem?_map]
    unfold slot at h
    cases q : e[i]? with
    | none => rw [q] at h; simp at h
    | some s => rw [q] at h; simpa using h
  obtain ⟨v, f1, f2, f3, hv, ef, hr⟩ := h1.get e1
  exact ⟨v, f2, hv, hr, fun a ha => hF a (List.mem_append_left _ (by rw [ef]; exact List.mem_append_left _ (List.mem_append_right _ ha)))⟩
/-- a value that is looked at -/
def See (W : Wd) (H : Hp) (Z : Addr → Prop) (o : O) (v : V) : Prop := ∃ f, RO W H Z o v f
theorem See.d {x : D} {v : V} (h : See W H Z (.d x) v) : RD W H Z x v := h.elim fun _ h => h.1
theorem See.fz {o : O} {v : V} (h : See W H Z o v) : True := trivial

/-! ### constants, names -/
def dC (x : D) : En → Rs O := fun e => .ok (.d x) e
theorem he_C {ex : Expr} {v : V} {x : D} (h : PE X ex (tC v)) (hr : ∀ H Z, RD (Cx.wd X cl) H Z x v) : HE X cl Wo ex (dC x) :=
  PE.imp h fun σ H Q ⟨Z, F, P, e, T, r, k⟩ => k v Z F H .refl (r.push (hr H Z))
theorem he_int {i j} : HE X cl Wo (.Constant (.int i) j pos) (dC (.int i)) := he_C pe_int fun _ _ => rfl
theorem he_bl {b j} : HE X cl Wo (.Constant (.bool b) j pos) (dC (.bl b)) := he_C pe_bl fun _ _ => rfl
theorem he_non {j} : HE X cl Wo (.Constant .none j pos) (dC .non) := he_C pe_non fun _ _ => rfl
theorem he_str {x j} : HE X cl Wo (.Constant (.str x) j pos) (dC (.str x)) := he_C pe_str fun _ _ => rfl
/-- a slot looked at -/
def vS (i : Nat) : En → Rs Ar := fun e => match slot e i with
  | some _ => .ok (.s i) e
  | none => .bad
theorem hv_name {i : Nat} {x : Str} (h : PE X (.Name x pos) (tVar i)) : HV X cl Wo (.Name x pos) (vS i) :=
  PE.imp h fun σ H Q ⟨Z, F, P, e, T, r, k⟩ => by
    unfold vS at k
    cases q : slot e i with
    | none => rw [q] at k; exact k.elim
    | some o =>
      rw [q] at k
      obtain ⟨v, f, hv, _⟩ := slot_get r q
      exact ⟨v, hv, k v Z F H .refl r hv⟩
/-- a made value as an operand -/
def vT (d : En → Rs O) : En → Rs Ar := fun e => (d e).bind fun o e1 => .ok (.t o) e1
theorem hv_of {ex : Expr} {d : En → Rs O} (h : HE X cl Wo ex d) : HV X cl Wo ex (vT d) :=
  PE.imp h fun σ H Q ⟨Z, F, P, e, T, r, k⟩ => ⟨Z, F, P, e, T, r, by
    unfold vT at k
    cases q : d e with
    | bad => rw [q] at k; exact k
    | exc c ps e' => rw [q] at k; exact k
    | ok o e' => rw [q] at k; exact fun v Z' F' H' s r => k v Z' F' H' s r trivial⟩
/-- the environment's part and the held part, as one -/
theorem RS.mk' {fe ft : List Addr} (h1 : REnv W H Z (e.map Sl.cont) σ fe) (h2 : ROs W H Z (T.map (·.1)) (T.map (·.2)) ft) (nd : (fe ++ ft).Nodup) (hF : ∀ a ∈ fe ++ ft, F a)
    (sep : ∀ a, F a → ¬ Z a) (zin : ∀ a, Z a → H a ≠ none) (fin : ∀ a, F a → Mut (H a)) (pin : ∀ (i : Nat) (s : Sl), e[i]? = some s → s.pinned = true → σ[i]? = some (some (P i))) (px : ∀ (i : Nat) (a : Addr), W.ex = some (i, a) → P i = .ref a) : RS W Z F P e T σ H :=
  ⟨⟨fe, ft, h1, h2, nd, hF⟩, sep, zin, fin, pin, px⟩
theorem map_set_cont {e : En} {i : Nat} {s : Sl} : (e.set i s).map Sl.cont = (e.map Sl.cont).set i s.cont := by rw [List.map_set]
theorem set_pin {e : En} {i j : Nat} {s t : Sl} (h : (e.set i s)[j]? = some t) (hp : t.pinned = true) (hs : s.pinned = true → ∃ s0, e[i]? = some s0 ∧ s0.pinned = true) : ∃ t0, e[j]? = some t0 ∧ t0.pinned = true := by
  by_cases ij : i = j
  · subst ij
    rw [List.getElem?_set] at h
    simp only [if_true] at h
    split at h
    · have : s = t := Option.some.inj h
      subst this
      exact hs hp
    · cases h
  · rw [List.getElem?_set_ne ij] at h
    exact ⟨t, h, hp⟩
/-- a slot's tree moves to the held values -/
theorem RS.lend (r : RS W Z F P e T σ H) {i : Nat} {s : Sl} {o : O} (hs : e[i]? = some s) (ho : s.cont = some o) : ∃ v, σ[i]? = some (some v) ∧ RS W Z F P (e.set i s.lent) ((o, v) :: T) σ H := by
  obtain ⟨⟨fe, ft, h1, h2, nd, hF⟩, sep, zin, fin, pin, px⟩ := r
  have e1 : (e.map Sl.cont)[i]? = some (some o) := by rw [List.getElem?_map, hs]; simp [ho]
  obtain ⟨v, f1, f2, f3, hv, ef, hr, h3⟩ := h1.drop e1
  have en : s.lent.cont = none := by cases s <;> rfl
  have pp : (fe ++ ft).Perm ((f1 ++ f3) ++ (f2 ++ ft)) := by
    rw [ef]
    simp only [List.append_assoc]
    refine List.Perm.append_left _ ?_
    rw [← List.append_assoc, ← List.append_assoc]
    exact List.Perm.append_right _ List.perm_append_comm
  refine ⟨v, hv, ⟨⟨f1 ++ f3, f2 ++ ft, ?_, ⟨v, _, f2, ft, rfl, rfl, hr, h2⟩, pp.nodup nd, fun a ha => hF a (pp.mem_iff.mpr ha)⟩, sep, zin, fin, fun j t hj hp => ?_, px⟩⟩
  · rw [map_set_cont, en]; exact h3
  · obtain ⟨t0, h0, p0⟩ := set_pin hj hp fun q => ⟨s, hs, by cases s <;> simp_all [Sl.lent, Sl.pinned]⟩
    exact pin j t0 h0 p0
/-- .. and back into the slot -/
theorem RS.back {v : V} {o : O} (r : RS W Z F P e ((o, v) :: T) σ H) {i : Nat} {s : Sl} (hs : e[i]? = some s) (ho : s.cont = none) (hv : σ[i]? = some (some v)) : RS W Z F P (e.set i (s.put o)) T σ H := by
  obtain ⟨⟨fe, ft, h1, ⟨v', rr, f1, f2, ev, ef, h2, h3⟩, nd, hF⟩, sep, zin, fin, pin, px⟩ := r
  have e0 : v = v' := (List.cons.inj ev).1
  have e2 : T.map (·.2) = rr := (List.cons.inj ev).2
  subst e0 e2
  have e1 : (e.map Sl.cont)[i]? = some none := by rw [List.getElem?_map, hs]; simp [ho]
  obtain ⟨g1, g3, eg, hr⟩ := h1.back e1 hv h2
  have pp : (fe ++ ft).Perm ((g1 ++ f1 ++ g3) ++ f2) := by
    rw [ef, eg]
    simp only [List.append_assoc]
    refine List.Perm.append_left _ ?_
    rw [← List.append_assoc, ← List.append_assoc]
    exact List.Perm.append_right _ List.perm_append_comm
  refine ⟨⟨g1 ++ f1 ++ g3, f2, ?_, h3, pp.nodup nd, fun a ha => hF a (pp.mem_iff.mpr ha)⟩, sep, zin, fin, fun j t hj hp => ?_, px⟩
  · rw [map_set_cont, show (s.put o).cont = some o by cases s <;> rfl]; exact hr
  · obtain ⟨t0, h0, p0⟩ := set_pin hj hp fun q => ⟨s, hs, by cases s <;> simp_all [Sl.put, Sl.pinned]⟩
    exact pin j t0 h0 p0
/-- a leaf is copied -/
theorem RS.dup {x : D} {v : V} (r : RS W Z F P e ((.d x, v) :: T) σ H) : RS W Z F P e ((.d x, v) :: (.d x, v) :: T) σ H := r.push r.topD

def modS (f : Sl → Sl) : En → Nat → En
  | [], _ => []
  | s :: e, 0 => f s :: e
  | s :: e, i + 1 => s :: modS f e i
theorem modS_eq {f : Sl → Sl} : ∀ {e : En} {i : Nat} {s : Sl}, e[i]? = some s → modS f e i = e.set i (f s)
  | [], _, _, h => by simp at h
  | s :: e, 0, t, h => by
    have : s = t := Option.some.inj h
    subst this; rfl
  | s :: e, i + 1, t, h => by
    show s :: modS f e i = s :: e.set i (f t)
    rw [modS_eq (i := i) h]
def putS (e : En) (i : Nat) (o : O) : En := modS (fun s => s.put o) e i
/-- a slot read: what it owns is known from then on -/
def dVar (i : Nat) : En → Rs O := fun e => match slot e i with
  | some (.d x) => .ok (.d x) e
  | some o => .ok (.d o.fz) (putS e i (.d o.fz))
  | none => .bad
theorem slot_some {i : Nat} {o : O} (h : slot e i = some o) : ∃ s, e[i]? = some s ∧ s.cont = some o := by
  unfold slot at h
  cases q : e[i]? with
  | none => rw [q] at h; simp at h
  | some s => rw [q] at h; exact ⟨s, rfl, h⟩
theorem lt_of_get {α : Type} {l : List α} {i : Nat} {x : α} (h : l[i]? = some x) : i < l.length := by
  rcases Nat.lt_or_ge i l.length with q | q
  · exact q
  · rw [List.getElem?_eq_none q] at h; cases h
theorem get_set_self {e : En} {i : Nat} {s t : Sl} (h : e[i]? = some s) : (e.set i t)[i]? = some t := by
  rw [List.getElem?_set_self (lt_of_get h)]
theorem set_set {e : En} {i : Nat} {s t : Sl} : (e.set i s).set i t = e.set i t := List.set_set ..
theorem lent_put {s : Sl} {o p : O} (h : s.cont = some o) : s.lent.put p = s.put p := by cases s <;> first | rfl | cases h
/-- a slot's tree is made known, and handed out too -/
theorem RS.read (r : RS W Z F P e T σ H) {i : Nat} {o : O} (h : slot e i = some o) : ∃ v Z' F', σ[i]? = some (some v) ∧ Stp Z F H Z' F' H ∧ RS W Z' F' P (putS e i (.d o.fz)) ((.d o.fz, v) :: T) σ H := by
  obtain ⟨s, hs, hc⟩ := slot_some h
  obtain ⟨v, hv, r1⟩ := r.lend hs hc
  obtain ⟨Z', F', st, r2⟩ := r1.freeze
  refine ⟨v, Z', F', hv, st, ?_⟩
  have r3 := RS.back r2.dup (i := i) (s := s.lent) (get_set_self hs) (by cases s <;> rfl) hv
  rw [set_set, lent_put hc] at r3
  unfold putS
  rw [modS_eq hs]
  exact r3
theorem he_var {i : Nat} {x : Str} (h : PE X (.Name x pos) (tVar i)) : HE X cl Wo (.Name x pos) (dVar i) :=
  PE.imp h fun σ H Q ⟨Z, F, P, e, T, r, k⟩ => by
    unfold dVar at k
    cases q : slot e i with
    | none => rw [q] at k; exact k.elim
    | some o =>
      rw [q] at k
      cases o with
      | d x =>
        obtain ⟨v, f, hv, hr, _⟩ := slot_get r q
        exact ⟨v, hv, k v Z F H .refl (r.push hr.1)⟩
      | lst xs =>
        obtain ⟨v, Z', F', hv, st, r2⟩ := r.read q
        exact ⟨v, hv, k v Z' F' H st r2⟩
      | dic ks xs =>
        obtain ⟨v, Z', F', hv, st, r2⟩ := r.read q
        exact ⟨v, hv, k v Z' F' H st r2⟩
      | obj c ns xs =>
        obtain ⟨v, Z', F', hv, st, r2⟩ := r.read q
        exact ⟨v, hv, k v Z' F' H st r2⟩
/-- a slot's tree moved out (a local that is not asked again) -/
def dMove (i : Nat) : En → Rs O := fun e => match e[i]? with
  | some (.v o) => .ok o (e.set i .no)
  | _ => .bad
theorem he_move {i : Nat} {x : Str} (h : PE X (.Name x pos) (tVar i)) : HE X cl Wo (.Name x pos) (dMove i) :=
  PE.imp h fun σ H Q ⟨Z, F, P, e, T, r, k⟩ => by
    unfold dMove at k
    cases q : e[i]? with
    | none => rw [q] at k; exact k.elim
    | some s =>
      rw [q] at k
      cases s with
      | v o =>
        obtain ⟨v, hv, r1⟩ := r.lend q (s := .v o) rfl
        exact ⟨v, hv, k v Z F H .refl r1⟩
      | _ => exact k.elim

/-! ### two operands -/
def fin (r : Option O) (e : En) : Rs O := match r with
  | some z => .ok z e
  | none => .bad
def dBin (f : O → O → Option O) (da db : En → Rs Ar) : En → Rs O := fun e => (da e).bind fun x e1 => (db e1).bind fun y e2 => match x.get e2, y.get e2 with
  | some a, some b => fin (f a b) e2
  | _, _ => .bad
/-- what a rule by values must say -/
def BinOk (W : Wd) (f : O → O → Option O) (r : V → V → Hp → VK → Prop) : Prop :=
  ∀ Z F P e T σ H a b z v u Q, f a b = some z → See W H Z a v → See W H Z b u → RS W Z F P e T σ H → (∀ w Z' F' H', Stp Z F H Z' F' H' → RS W Z' F' P e ((z, w) :: T) σ H' → Q w H') → r v u H Q
theorem see_tmp {x : Ar} {v : V} {o : O} (r : RS W Z F P e (x.tmp v ++ T) σ H) (ha : x.at σ v) (hg : x.get e = some o) : See W H Z o v ∧ RS W Z F P e T σ H := by
  cases x with
  | t p =>
    have : p = o := Option.some.inj hg
    subst this
    obtain ⟨f, h, _⟩ := r.top
    exact ⟨⟨f, h⟩, r.pop⟩
  | s i =>
    obtain ⟨w, f, hw, h, _⟩ := slot_get r hg
    rw [show σ[i]? = some (some v) from ha] at hw
    cases hw
    exact ⟨⟨f, h⟩, r⟩
theorem RS.appPop {T1 T2 : Ts} (r : RS W Z F P e (T1 ++ T2) σ H) : RS W Z F P e T2 σ H := by
  induction T1 with
  | nil => exact r
  | cons x T1 ih => exact ih r.pop
theorem XOk.pops {T1 : Ts} {c ps} (h : XOk W Wo Z F P T σ H c ps e) : XOk W Wo Z F P (T1 ++ T) σ H c ps e :=
  fun Z2 F2 H2 C dd hc py s2 r => h Z2 F2 H2 C dd hc py s2 r.appPop
theorem rd2 {f : O → O → Option O} {r : V → V → Hp → VK → Prop} {da db : En → Rs Ar} (hf : BinOk W f r) (h : rdE W Wo (dBin f da db) σ H Q) :
    rdV W Wo da σ H fun v H1 => rdV W Wo db σ H1 fun u H2 => r v u H2 Q := by
  obtain ⟨Z, F, P, e, T, r0, k⟩ := h
  refine ⟨Z, F, P, e, T, r0, ?_⟩
  unfold dBin at k
  cases qa : da e with
  | bad => rw [qa] at k; exact k
  | exc c ps e' => rw [qa] at k; exact k
  | ok x e1 =>
    intro v Z1 F1 H1 s1 r1 a1
    rw [qa] at k
    refine ⟨Z1, F1, P, e1, x.tmp v ++ T, r1, ?_⟩
    simp only [Rs.bind] at k
    cases qb : db e1 with
    | bad => rw [qb] at k; exact k
    | exc c ps e' => rw [qb] at k; exact XOk.pops (XOk.step s1 k)
    | ok y e2 =>
      intro u Z2 F2 H2 s2 r2 a2
      rw [qb] at k
      simp only [Rs.bind] at k
      cases gx : x.get e2 with
      | none => rw [gx] at k; exact k.elim
      | some a =>
        cases gy : y.get e2 with
        | none => rw [gx, gy] at k; exact k.elim
        | some b =>
          rw [gx, gy] at k
          obtain ⟨sb, r3⟩ := see_tmp r2 a2 gy
          obtain ⟨sa, r4⟩ := see_tmp r3 a1 gx
          cases qz : f a b with
          | none => simp only [fin, qz] at k; exact k.elim
          | some z =>
            simp only [fin, qz] at k
            exact hf Z2 F2 P e2 T σ H2 a b z v u Q qz sa sb r4 fun w Z' F' H' s3 r5 => k w Z' F' H' ((s1.trans s2).trans s3) r5
theorem he_op {a b : Expr} {op : Operator} {r} {f : O → O → Option O} {da db : En → Rs Ar} (ho : OpR X (binaryOp op) r) (hf : BinOk (Cx.wd X cl) f r) (ha : HV X cl Wo a da) (hb : HV X cl Wo b db) : HE X cl Wo (.BinOp a op b pos) (dBin f da db) :=
  PE.imp (pe_op ho ha hb) fun σ H Q h => rd2 hf h
theorem he_cmp {a b : Expr} {op : CmpOp} {r} {f : O → O → Option O} {da db : En → Rs Ar} (ho : OpR X (compareOp op) r) (hf : BinOk (Cx.wd X cl) f r) (ha : HV X cl Wo a da) (hb : HV X cl Wo b db) (hm : behindInMarks op b = false) : HE X cl Wo (.Compare a [op] [b] pos) (dBin f da db) :=
  PE.imp (pe_cmpR ho ha hb hm) fun σ H Q h => rd2 hf h
/-! ### one operand -/
def dUn (f : O → Option O) (da : En → Rs Ar) : En → Rs O := fun e => (da e).bind fun x e1 => match x.get e1 with
  | some a => fin (f a) e1
  | none => .bad
def UnOk (W : Wd) (f : O → Option O) (r : V → Hp → VK → Prop) : Prop :=
  ∀ Z F P e T σ H a z v Q, f a = some z → See W H Z a v → RS W Z F P e T σ H → (∀ w Z' F' H', Stp Z F H Z' F' H' → RS W Z' F' P e ((z, w) :: T) σ H' → Q w H') → r v H Q
theorem rd1 {f : O → Option O} {r : V → Hp → VK → Prop} {da : En → Rs Ar} (hf : UnOk W f r) (h : rdE W Wo (dUn f da) σ H Q) : rdV W Wo da σ H fun v H1 => r v H1 Q := by
  obtain ⟨Z, F, P, e, T, r0, k⟩ := h
  refine ⟨Z, F, P, e, T, r0, ?_⟩
  unfold dUn at k
  cases qa : da e with
  | bad => rw [qa] at k; exact k
  | exc c ps e' => rw [qa] at k; exact k
  | ok x e1 =>
    intro v Z1 F1 H1 s1 r1 a1
    rw [qa] at k
    simp only [Rs.bind] at k
    cases gx : x.get e1 with
    | none => rw [gx] at k; exact k.elim
    | some a =>
      rw [gx] at k
      obtain ⟨sa, r4⟩ := see_tmp r1 a1 gx
      cases qz : f a with
      | none => simp only [fin, qz] at k; exact k.elim
      | some z =>
        simp only [fin, qz] at k
        exact hf Z1 F1 P e1 T σ H1 a z v Q qz sa r4 fun w Z' F' H' s3 r5 => k w Z' F' H' (s1.trans s3) r5
theorem he_un {a : Expr} {op : UnaryOp} {r} {f : O → Option O} {da : En → Rs Ar} (ho : UnR X (unaryOp op) r) (hf : UnOk (Cx.wd X cl) f r) (ha : HV X cl Wo a da) : HE X cl Wo (.UnaryOp op a pos) (dUn f da) :=
  PE.imp (pe_un ho ha) fun σ H Q h => rd1 hf h
/-- the answer needs no heap -/
theorem done_leaf {x : D} {w : V} (r : RS W Z F P e T σ H) (h : ∀ H Z, RD W H Z x w) (k : ∀ w Z' F' H', Stp Z F H Z' F' H' → RS W Z' F' P e ((.d x, w) :: T) σ H' → Q w H') : Q w H := k w Z F H .refl (r.push (h H Z))
end
end MX

/-! MX3: operators, comparisons, subscripts by values. -/
namespace MX
open PySem L2
section
variable {X : Cx} {cl : Cl} {Wo : WX} {pos : Pos}
variable {W : Wd} {Z F Z' F' : Addr → Prop} {P : Nat → V} {e : En} {T : Ts} {σ : L2.St} {H H' : Hp} {Q : VK}

theorem See.all {o : O} {v : V} (h : See W H Z o v) : RD W H (fun _ => True) o.fz v := h.elim fun f h => h.frozen (fun _ _ => trivial) _ _ _ fun _ _ => trivial
/-- all items known -/
def leafs : List O → Option (List D)
  | [] => some []
  | .d x :: r => (leafs r).map (x :: ·)
  | _ :: _ => none
theorem leafs_map : ∀ xs : List D, leafs (xs.map O.d) = some xs
  | [] => rfl
  | x :: xs => by show (leafs (xs.map O.d)).map (x :: ·) = some (x :: xs); rw [leafs_map xs]; rfl
theorem leafs_eq : ∀ {os : List O} {ds : List D}, leafs os = some ds → os = ds.map O.d
  | [], ds, h => by
    have : [] = ds := Option.some.inj h
    subst this; rfl
  | .d x :: r, ds, h => by
    cases q : leafs r with
    | none => simp [leafs, q] at h
    | some es =>
      simp only [leafs, q, Option.map_some, Option.some.injEq] at h
      subst h
      rw [leafs_eq q]; rfl
  | .lst _ :: _, _, h => by cases h
  | .dic _ _ :: _, _, h => by cases h
  | .obj _ _ _ :: _, _, h => by cases h
theorem leafs_append {os ps : List O} {ds es : List D} (h : leafs os = some ds) (h' : leafs ps = some es) : leafs (os ++ ps) = some (ds ++ es) := by
  rw [leafs_eq h, leafs_eq h', ← List.map_append, leafs_map]
theorem ROs.rds : ∀ {ds : List D} {vs : List V} {f : List Addr}, ROs W H Z (ds.map O.d) vs f → RDs W H Z ds vs
  | [], _, _, ⟨e, _⟩ => e
  | d :: ds, vs, f, ⟨v, r, f1, f2, e, _, h1, h2⟩ => ⟨v, r, e, h1.1, ROs.rds h2⟩
/-- a list's items -/
def O.ls : O → Option (List D)
  | .lst os => leafs os
  | .d (.lst ds) => some ds
  | _ => none
def O.tp : O → Option (List D)
  | .d (.tup ds) => some ds
  | _ => none
theorem See.list {o : O} {v : V} {ds : List D} (h : See W H Z o v) (q : o.ls = some ds) : ∃ a vs, v = .ref a ∧ SqL W.K H a vs ∧ RDs W H Z ds vs := by
  obtain ⟨f, h⟩ := h
  cases o with
  | lst os =>
    obtain ⟨a, vs, f', e, hh, ef, r⟩ := h
    rw [leafs_eq q] at r
    exact ⟨a, vs, e, .inl (.inl hh), r.rds⟩
  | d x =>
    cases x with
    | lst es =>
      have : es = ds := Option.some.inj q
      subst this
      obtain ⟨⟨a, vs, e, hh, r⟩, _⟩ := h
      exact ⟨a, vs, e, .inl hh.2, r⟩
    | _ => cases q
  | _ => cases q
theorem See.tuple {o : O} {v : V} {ds : List D} (h : See W H Z o v) (q : o.tp = some ds) : ∃ a vs, v = .ref a ∧ SqT W.K H a vs ∧ RDs W H Z ds vs := by
  obtain ⟨f, h⟩ := h
  cases o with
  | d x =>
    cases x with
    | tup es =>
      have : es = ds := Option.some.inj q
      subst this
      obtain ⟨⟨a, vs, e, hh, r⟩, _⟩ := h
      exact ⟨a, vs, e, hh.sq, r⟩
    | _ => cases q
  | _ => cases q
theorem See.int {i : Int} {v : V} (h : See W H Z (.d (.int i)) v) : v = .int i := h.d
theorem See.str {i : Str} {v : V} (h : See W H Z (.d (.str i)) v) : v = .str i := h.d
theorem See.bl {i : Bool} {v : V} (h : See W H Z (.d (.bl i)) v) : v = .bl i := h.d
/-- a new list of known values -/
theorem RS.newL {ds : List D} {vs : List V} {p : Addr} (r : RS W Z F P e T σ H) (h : RDs W H Z ds vs) (hp : H p = none) : RS W Z (fun a => F a ∨ a = p) P e ((.lst (ds.map O.d), .ref p) :: T) σ (upd H p (.lst vs)) := by
  obtain ⟨⟨fe, ft, h1, h2, nd, hF⟩, sep, zin, fin, pin, px⟩ := r
  have k := same_upd (o := .lst vs) hp
  have kp : Kp H Z (upd H p (.lst vs)) Z := ⟨fun _ h => h, fun a o _ h => k a o h, fun a _ h => k a _ h, fun a _ _ h => k a _ h⟩
  have pF : ∀ a, F a → a ≠ p := fun a fa z => by subst z; exact notMut_none hp (fin a fa)
  refine ⟨⟨fe, p :: ft, h1.keep kp _ _ _ fun a _ u q => k a u q, ⟨.ref p, _, [p], ft, rfl, rfl, ⟨p, vs, [], rfl, upd_same, rfl, (h.keep kp).ros⟩, h2.keep kp _ _ _ fun a _ u q => k a u q⟩, ?_, fun a ha => ?_⟩, fun a ha z => ?_, fun a z q => ?_, fun a ha => ?_, pin, px⟩
  · rw [List.perm_middle.nodup_iff, List.nodup_cons]
    exact ⟨fun z => pF p (hF p z) rfl, nd⟩
  · rcases List.mem_append.mp ha with q | q
    · exact .inl (hF a (List.mem_append_left _ q))
    · rcases List.mem_cons.mp q with q | q
      · exact .inr q
      · exact .inl (hF a (List.mem_append_right _ q))
  · rcases ha with ha | ha
    · exact sep a ha z
    · subst ha; exact zin a z hp
  · exact dom_upd a (zin a z) q
  · rcases ha with ha | ha
    · rw [upd_ne (pF a ha)]; exact fin a ha
    · rw [ha, upd_same]; trivial
/-- a new tuple of known values -/
theorem RS.newT {ds : List D} {vs : List V} {p : Addr} {o : Obj} (r : RS W Z F P e T σ H) (h : RDs W H Z ds vs) (hp : H p = none) (ho : o.dict = none) : RS W Z F P e ((.d (.tup ds), .ref p) :: T) σ (upd H p (.frz o (.tup vs))) := by
  have k := same_upd (o := .frz o (.tup vs)) hp
  have kp : Kp H Z (upd H p (.frz o (.tup vs))) Z := ⟨fun _ h => h, fun a o _ h => k a o h, fun a _ h => k a _ h, fun a _ _ h => k a _ h⟩
  exact (r.grow k).push ⟨p, vs, rfl, .inl ⟨o, upd_same, ho⟩, h.keep kp⟩
theorem BinOk.or {f g : O → O → Option O} {r r' : V → V → Hp → VK → Prop} (a : BinOk W f r) (b : BinOk W g r') : BinOk W (fun x y => match f x y with | some z => some z | none => g x y) (fun x y H Q => r x y H Q ∨ r' x y H Q) := by
  intro Z F P e T σ H x y z v u Q hf sa sb rs k
  cases q : f x y with
  | some w => simp only [q] at hf; exact .inl (a Z F P e T σ H x y w v u Q q sa sb rs (by rw [Option.some.inj hf]; exact k))
  | none => simp only [q] at hf; exact .inr (b Z F P e T σ H x y z v u Q hf sa sb rs k)
theorem UnOk.or {f g : O → Option O} {r r' : V → Hp → VK → Prop} (a : UnOk W f r) (b : UnOk W g r') : UnOk W (fun x => match f x with | some z => some z | none => g x) (fun x H Q => r x H Q ∨ r' x H Q) := by
  intro Z F P e T σ H x z v Q hf sa rs k
  cases q : f x with
  | some w => simp only [q] at hf; exact .inl (a Z F P e T σ H x w v Q q sa rs (by rw [Option.some.inj hf]; exact k))
  | none => simp only [q] at hf; exact .inr (b Z F P e T σ H x z v Q hf sa rs k)

/-! ### ints -/
def onI (g : Int → Int → Option D) : O → O → Option O
  | .d (.int i), .d (.int j) => (g i j).map .d
  | _, _ => none
theorem onI_some {g : Int → Int → Option D} {a b z : O} (h : onI g a b = some z) : ∃ i j x, a = .d (.int i) ∧ b = .d (.int j) ∧ g i j = some x ∧ z = .d x := by
  unfold onI at h
  split at h
  · rename_i i j
    cases q : g i j with
    | none => rw [q] at h; cases h
    | some x => rw [q] at h; exact ⟨i, j, x, rfl, rfl, q, (Option.some.inj h).symm⟩
  · cases h
theorem binI {C : Int → Int → Prop} {k : Int → Int → V} {g : Int → Int → Option D} (hg : ∀ i j x, g i j = some x → C i j ∧ ∀ H Z, RD W H Z x (k i j)) : BinOk W (onI g) (rI C k) := by
  intro Z F P e T σ H a b z v u Q hf sa sb rs kk
  obtain ⟨i, j, x, rfl, rfl, hx, rfl⟩ := onI_some hf
  obtain ⟨hC, hR⟩ := hg i j x hx
  exact ⟨i, j, sa.int, sb.int, hC, done_leaf rs hR kk⟩
theorem binI0 {k : Int → Int → V} {g : Int → Int → D} (hg : ∀ i j H Z, RD W H Z (g i j) (k i j)) : BinOk W (onI fun i j => some (g i j)) (rI0 k) := by
  intro Z F P e T σ H a b z v u Q hf sa sb rs kk
  obtain ⟨i, j, x, rfl, rfl, hx, rfl⟩ := onI_some hf
  have : g i j = x := Option.some.inj hx
  subst this
  exact ⟨i, j, sa.int, sb.int, done_leaf rs (hg i j) kk⟩
def fSub : O → O → Option O := onI fun i j => some (.int (i - j))
theorem bSub : BinOk W fSub (rI0 fun i j => .int (i - j)) := binI0 fun _ _ _ _ => rfl
def fMod : O → O → Option O := onI fun i j => if 0 < j then some (.int (i % j)) else none
theorem bMod : BinOk W fMod (rI (fun _ j => 0 < j) fun i j => .int (i % j)) := binI fun i j x h => by
  split at h
  · rename_i q; cases h; exact ⟨q, fun _ _ => rfl⟩
  · cases h
def fDiv : O → O → Option O := onI fun i j => if 0 < j then if j.natAbs.log2 < 9000 then some (.int (i / j)) else none else none
theorem bDiv : BinOk W fDiv (rI CDivW fun i j => .int (i / j)) := binI fun i j x h => by
  split at h
  · rename_i q
    split at h
    · rename_i q'; cases h; exact ⟨⟨q, q'⟩, fun _ _ => rfl⟩
    · cases h
  · cases h
def isSm (i : Int) : Bool := decide (-(2 ^ 64) < i) && decide (i < 2 ^ 64)
theorem isSm_of {i : Int} (h : isSm i = true) : -(2 ^ 64) < i ∧ i < 2 ^ 64 := by
  unfold isSm at h
  rw [Bool.and_eq_true] at h
  exact ⟨of_decide_eq_true h.1, of_decide_eq_true h.2⟩
def fMulS : O → O → Option O := onI fun i j => if (isSm i || isSm j) = true then some (.int (i * j)) else none
theorem bMulS : BinOk W fMulS (rI CMul fun i j => .int (i * j)) := binI fun i j x h => by
  split at h
  · rename_i q
    cases h
    rw [Bool.or_eq_true] at q
    exact ⟨q.imp isSm_of isSm_of, fun _ _ => rfl⟩
  · cases h
def fMulW : O → O → Option O := onI fun i j => if i.natAbs.log2 + j.natAbs.log2 < 1000000 then some (.int (i * j)) else none
theorem bMulW : BinOk W fMulW (rI CMulW fun i j => .int (i * j)) := binI fun i j x h => by
  split at h
  · rename_i q; cases h; exact ⟨q, fun _ _ => rfl⟩
  · cases h
def fPow : O → O → Option O := onI fun i j => if 0 ≤ j ∧ j ≤ 1000000 ∧ i.natAbs < 2 ^ 64 then some (.int (i ^ j.toNat)) else none
theorem bPow : BinOk W fPow (rI CPow fun i j => .int (i ^ j.toNat)) := binI fun i j x h => by
  split at h
  · rename_i q; cases h; exact ⟨q, fun _ _ => rfl⟩
  · cases h
def fLt : O → O → Option O := onI fun i j => some (.bl (decide (i < j)))
theorem bLt : BinOk W fLt (rI0 fun i j => .bl (decide (i < j))) := binI0 fun _ _ _ _ => rfl
def fLe : O → O → Option O := onI fun i j => some (.bl (decide (i ≤ j)))
theorem bLe : BinOk W fLe (rI0 fun i j => .bl (decide (i ≤ j))) := binI0 fun _ _ _ _ => rfl
def fGt : O → O → Option O := onI fun i j => some (.bl (decide (j < i)))
theorem bGt : BinOk W fGt (rI0 fun i j => .bl (decide (j < i))) := binI0 fun _ _ _ _ => rfl
def fGe : O → O → Option O := onI fun i j => some (.bl (decide (j ≤ i)))
theorem bGe : BinOk W fGe (rI0 fun i j => .bl (decide (j ≤ i))) := binI0 fun _ _ _ _ => rfl
def fNeg : O → Option O
  | .d (.int i) => some (.d (.int (-i)))
  | _ => none
theorem uNeg : UnOk W fNeg (rU fun i => .int (-i)) := by
  intro Z F P e T σ H a z v Q hf sa rs k
  unfold fNeg at hf
  split at hf
  · rename_i i
    cases hf
    exact ⟨_, sa.int, done_leaf (x := .int (-i)) rs (fun _ _ => rfl) k⟩
  · cases hf
/-! ### + -/
def fAddI : O → O → Option O := onI fun i j => some (.int (i + j))
theorem bAddI : BinOk W fAddI (rI0 fun i j => .int (i + j)) := binI0 fun _ _ _ _ => rfl
def fAddS : O → O → Option O
  | .d (.str s), .d (.str t) => if s.length + t.length ≤ sizeLine then some (.d (.str (s ++ t))) else none
  | _, _ => none
theorem bAddS : BinOk W fAddS (fun x y H Q => ∃ i j, x = .str i ∧ y = .str j ∧ i.length + j.length ≤ sizeLine ∧ Q (.str (i ++ j)) H) := by
  intro Z F P e T σ H a b z v u Q hf sa sb rs k
  unfold fAddS at hf
  split at hf
  · rename_i s t
    split at hf
    · rename_i q; cases hf
      exact ⟨_, _, sa.str, sb.str, q, done_leaf (x := .str (s ++ t)) rs (fun _ _ => rfl) k⟩
    · cases hf
  · cases hf
def fCat : O → O → Option O := fun a b => match a.ls, b.ls with
  | some xs, some ys => if xs.length + ys.length ≤ sizeLine then some (.lst ((xs ++ ys).map .d)) else none
  | _, _ => none
theorem See.listR {o : O} {v : V} {ds : List D} (h : See W H Z o v) (q : o.ls = some ds) : ∃ a vs, v = .ref a ∧ Rd H a (.lst vs) ∧ RDs W H Z ds vs := by
  obtain ⟨f, h⟩ := h
  cases o with
  | lst os =>
    obtain ⟨a, vs, f', e, hh, ef, r⟩ := h
    rw [leafs_eq q] at r
    exact ⟨a, vs, e, .inl hh, r.rds⟩
  | d x =>
    cases x with
    | lst es =>
      have : es = ds := Option.some.inj q
      subst this
      obtain ⟨⟨a, vs, e, hh, r⟩, _⟩ := h
      exact ⟨a, vs, e, hh.2, r⟩
    | _ => cases q
  | _ => cases q
def rCatR : R2 := fun x y H Q => ∃ a b xs ys, x = .ref a ∧ y = .ref b ∧ Rd H a (.lst xs) ∧ Rd H b (.lst ys) ∧ xs.length + ys.length ≤ sizeLine ∧ ∀ p, H p = none → Q (.ref p) (upd H p (.lst (xs ++ ys)))
theorem op_catR : OpR X (binaryOp .Add) rCatR := by
  intro pins s σ H x y v u Q I rx ry h
  obtain ⟨l, b, xs, zs, rfl, rfl, hH, hB, hz, q⟩ := h
  cases rx
  cases ry
  obtain ⟨z, its, n, r, e⟩ := hH.ok I.hok
  obtain ⟨z2, its2, n2, r2, e2⟩ := hB.ok I.hok
  have hl := r.length
  have hl2 := r2.length
  refine PySem.P.add_list e e2 ?_ (by rw [List.size_toArray, List.size_toArray]; omega)
  have ea : its.toArray ++ its2.toArray = (its ++ its2).toArray := by simp
  rw [ea]
  exact ⟨.ref _, _, I.lnew (t' := s.toks) (r.append r2) (by rw [List.length_append]; omega), rfl, q _ I.fresh⟩
theorem bCat : BinOk W fCat rCatR := by
  intro Z F P e T σ H a b z v u Q hf sa sb rs k
  unfold fCat at hf
  split at hf
  · rename_i xs ys hx hy
    split at hf
    · rename_i q; cases hf
      obtain ⟨p, vs, e1, h1, r1⟩ := sa.listR hx
      obtain ⟨p', us, e2, h2, r2⟩ := sb.listR hy
      refine ⟨p, p', vs, us, e1, e2, h1, h2, by rw [← r1.len, ← r2.len]; exact q, fun c hc => k _ _ _ _ (Stp.allocF hc) (rs.newL (r1.append r2) hc)⟩
    · cases hf
  · cases hf
def fCatT : O → O → Option O := fun a b => match a.tp, b.tp with
  | some xs, some ys => if xs.length + ys.length ≤ sizeLine then some (.d (.tup (xs ++ ys))) else none
  | _, _ => none
theorem bCatT : BinOk W fCatT (rCatN W.K) := by
  intro Z F P e T σ H a b z v u Q hf sa sb rs k
  unfold fCatT at hf
  split at hf
  · rename_i xs ys hx hy
    split at hf
    · rename_i q; cases hf
      obtain ⟨p, vs, e1, h1, r1⟩ := sa.tuple hx
      obtain ⟨p', us, e2, h2, r2⟩ := sb.tuple hy
      have d1 : RD W H Z (.tup xs) v := by
        cases a with
        | d x =>
          cases x with
          | tup es =>
            have : es = xs := Option.some.inj hx
            subst this; exact sa.d
          | _ => cases hx
        | _ => cases hx
      have d2 : RD W H Z (.tup ys) u := by
        cases b with
        | d x =>
          cases x with
          | tup es =>
            have : es = ys := Option.some.inj hy
            subst this; exact sb.d
          | _ => cases hy
        | _ => cases hy
      refine ⟨p, p', vs, us, e1, e2, h1, h2, by rw [← r1.len, ← r2.len]; exact q, fun hv => ?_, fun hv hu => ?_, fun hv hu c o hc ho => k _ _ _ _ (Stp.alloc hc) (rs.newT (r1.append r2) hc ho)⟩
      · subst hv
        have : xs = [] := List.length_eq_zero_iff.mp r1.len
        subst this
        exact k _ _ _ _ .refl (rs.push (by rw [← e2]; exact d2))
      · subst hu
        have : ys = [] := List.length_eq_zero_iff.mp r2.len
        subst this
        exact k _ _ _ _ .refl (rs.push (by rw [← e1, List.append_nil]; exact d1))
    · cases hf
  · cases hf
/-! ### a subscript -/
def fIxL : O → O → Option O
  | a, .d (.int i) => match a.ls with
    | some xs => (atI xs i).map .d
    | none => none
  | _, _ => none
theorem atI_map {α β : Type} {R : α → β → Prop} {xs : List α} {ys : List β} (hl : xs.length = ys.length) (h : ∀ (j : Nat) x, xs[j]? = some x → ∃ y, ys[j]? = some y ∧ R x y) {i : Int} {x : α} (e : atI xs i = some x) : ∃ y, atI ys i = some y ∧ R x y := by
  unfold atI at *
  cases q : ixN xs.length i with
  | none => rw [q] at e; cases e
  | some j =>
    rw [q] at e
    obtain ⟨y, hy, r⟩ := h j x e
    exact ⟨y, by rw [← hl, q]; exact hy, r⟩
theorem bIxL : BinOk W fIxL (rIxL W.K) := by
  intro Z F P e T σ H a b z v u Q hf sa sb rs k
  unfold fIxL at hf
  split at hf
  · split at hf
    · rename_i xs hx
      cases q : atI xs ‹Int› with
      | none => rw [q] at hf; cases hf
      | some x =>
        rw [q] at hf; cases hf
        obtain ⟨p, vs, e1, h1, r1⟩ := sa.list hx
        obtain ⟨y, hy, ry⟩ := atI_map r1.len (fun j x hx => r1.get hx) q
        exact ⟨p, vs, _, y, e1, sb.int, h1, hy, k _ _ _ _ .refl (rs.push ry)⟩
    · cases hf
  · cases hf
def fIxT : O → O → Option O
  | a, .d (.int i) => match a.tp with
    | some xs => (atI xs i).map .d
    | none => none
  | _, _ => none
theorem bIxT : BinOk W fIxT (rIxT W.K) := by
  intro Z F P e T σ H a b z v u Q hf sa sb rs k
  unfold fIxT at hf
  split at hf
  · split at hf
    · rename_i xs hx
      cases q : atI xs ‹Int› with
      | none => rw [q] at hf; cases hf
      | some x =>
        rw [q] at hf; cases hf
        obtain ⟨p, vs, e1, h1, r1⟩ := sa.tuple hx
        obtain ⟨y, hy, ry⟩ := atI_map r1.len (fun j x hx => r1.get hx) q
        exact ⟨p, vs, _, y, e1, sb.int, h1, hy, k _ _ _ _ .refl (rs.push ry)⟩
    · cases hf
  · cases hf
def fIxS : O → O → Option O
  | .d (.str s), .d (.int i) => if s.length ≤ sizeLine then (atI s.cps.toList i).map fun c => .d (.str ⟨#[c]⟩) else none
  | _, _ => none
theorem bIxS : BinOk W fIxS rIxS := by
  intro Z F P e T σ H a b z v u Q hf sa sb rs k
  unfold fIxS at hf
  split at hf
  · rename_i s i
    split at hf
    · rename_i hl
      cases q : atI s.cps.toList i with
      | none => rw [q] at hf; cases hf
      | some x =>
        rw [q] at hf; cases hf
        exact ⟨_, _, x, sa.str, sb.int, hl, q, done_leaf (x := .str ⟨#[x]⟩) rs (fun _ _ => rfl) k⟩
    · cases hf
  · cases hf
theorem he_ix {a b : Expr} {r} {f : O → O → Option O} {da db : En → Rs Ar} (ho : IxR X r) (hf : BinOk (Cx.wd X cl) f r) (ha : HV X cl Wo a da) (hb : HV X cl Wo b db) (hs : PlainIx b) : HE X cl Wo (.Subscript a b pos) (dBin f da db) :=
  PE.imp (pe_ix ho ha hb hs) fun σ H Q h => rd2 hf h
end
end MX

/-! MX4: truth, tests, equality, membership, argument lists, displays, built-in calls. -/
namespace MX
open PySem L2
section
variable {X : Cx} {cl : Cl} {Wo : WX} {pos : Pos}
variable {W : Wd} {Z F Z' F' : Addr → Prop} {P : Nat → V} {e : En} {T : Ts} {σ : L2.St} {H H' : Hp} {Q : VK}
/-! ### tests -/
def dTst (d : En → Rs O) : En → Rs Bool := fun e => (d e).bind fun o e1 => match o with
  | .d (.bl b) => .ok b e1
  | _ => .bad
theorem rdT_of {d : En → Rs O} {Q : Bool → Hp → Prop} (h : rdT W Wo (dTst d) σ H Q) : rdE W Wo d σ H fun z H' => ∃ k, z = .bl k ∧ Q k H' := by
  obtain ⟨Z, F, P, e, T, r0, k⟩ := h
  refine ⟨Z, F, P, e, T, r0, ?_⟩
  unfold dTst at k
  cases q : d e with
  | bad => rw [q] at k; exact k
  | exc c ps e' => rw [q] at k; exact k
  | ok o e1 =>
    rw [q] at k
    simp only [Rs.bind] at k
    intro v Z1 F1 H1 s1 r1
    cases o with
    | d x =>
      cases x with
      | bl b => exact ⟨b, r1.topD, k Z1 F1 H1 s1 r1.pop⟩
      | _ => exact k.elim
    | _ => exact k.elim
theorem ht_val {ex : Expr} {d : En → Rs O} (h : HE X cl Wo ex d) (he : ∀ whole, isTrue ex X.env whole = (do let v ← whole; standAt ex.pos; holding [v] (truthy v)) := by intro _; rfl) : HT X cl Wo ex (dTst d) :=
  PT.imp (pt_val h he) fun σ H Q h => rdT_of h
theorem ht_cmp {a b : Expr} {op : CmpOp} {r} {f : O → O → Option O} {da db : En → Rs Ar} (ho : OpR X (compareOp op) r) (hf : BinOk (Cx.wd X cl) f r) (ha : HV X cl Wo a da) (hb : HV X cl Wo b db) (hm : behindInMarks op b = false) : HT X cl Wo (.Compare a [op] [b] pos) (dTst (dBin f da db)) :=
  PT.imp (pt_cmpR ho ha hb hm) fun σ H Q h => rd2 hf (rdT_of h)
/-- a < b < c -/
def dChain (f g : O → O → Option O) (da db dc : En → Rs Ar) : En → Rs O := fun e => (da e).bind fun x e1 => (db e1).bind fun y e2 => match x.get e2, y.get e2 with
  | some a, some b => match f a b with
    | some (.d (.bl true)) => (dc e2).bind fun z e3 => match y.get e3, z.get e3 with
      | some b', some c => fin (g b' c) e3
      | _, _ => .bad
    | some (.d (.bl false)) => .ok (.d (.bl false)) e2
    | _ => .bad
  | _, _ => .bad
theorem rdChain {f g : O → O → Option O} {r r' : V → V → Hp → VK → Prop} {da db dc : En → Rs Ar} (hf : BinOk W f r) (hg : BinOk W g r') (h : rdE W Wo (dChain f g da db dc) σ H Q) :
    rdV W Wo da σ H fun v H1 => rdV W Wo db σ H1 fun u H2 => r v u H2 fun z H3 => ∃ k, z = .bl k ∧ (if k = true then rdV W Wo dc σ H3 fun w' H4 => r' u w' H4 Q else Q (.bl false) H3) := by
  obtain ⟨Z, F, P, e, T, r0, k⟩ := h
  refine ⟨Z, F, P, e, T, r0, ?_⟩
  unfold dChain at k
  cases qa : da e with
  | bad => rw [qa] at k; exact k
  | exc c ps e' => rw [qa] at k; exact k
  | ok x e1 =>
    intro v Z1 F1 H1 s1 r1 a1
    rw [qa] at k
    refine ⟨Z1, F1, P, e1, x.tmp v ++ T, r1, ?_⟩
    simp only [Rs.bind] at k
    cases qb : db e1 with
    | bad => rw [qb] at k; exact k
    | exc c ps e' => rw [qb] at k; exact XOk.pops (XOk.step s1 k)
    | ok y e2 =>
      intro u Z2 F2 H2 s2 r2 a2
      rw [qb] at k
      simp only [Rs.bind] at k
      cases gx : x.get e2 with
      | none => rw [gx] at k; exact k.elim
      | some a =>
        cases gy : y.get e2 with
        | none => rw [gx, gy] at k; exact k.elim
        | some b =>
          rw [gx, gy] at k
          obtain ⟨sb, r3⟩ := see_tmp r2 a2 gy
          obtain ⟨sa, r4⟩ := see_tmp r3 a1 gx
          cases qz : f a b with
          | none => simp only [qz] at k; exact k.elim
          | some z =>
            simp only [qz] at k
            refine hf Z2 F2 P e2 (y.tmp u ++ (x.tmp v ++ T)) σ H2 a b z v u _ qz sa sb r2 fun w Z3 F3 H3 s3 r5 => ?_
            cases z with
            | d zz =>
              cases zz with
              | bl bb =>
                refine ⟨bb, r5.topD, ?_⟩
                have r6 := r5.pop
                cases bb with
                | false =>
                  refine iteF ?_
                  exact k _ Z3 F3 H3 ((s1.trans s2).trans s3) ((r6.appPop).appPop.push (x := .bl false) (v := .bl false) rfl)
                | true =>
                  refine iteT ?_
                  refine ⟨Z3, F3, P, e2, y.tmp u ++ (x.tmp v ++ T), r6, ?_⟩
                  cases qc : dc e2 with
                  | bad => rw [qc] at k; exact k.elim
                  | exc c ps e' => rw [qc] at k; exact XOk.pops (XOk.pops (XOk.step ((s1.trans s2).trans s3) k))
                  | ok zc e3 =>
                    rw [qc] at k
                    simp only [Rs.bind] at k
                    intro w' Z4 F4 H4 s4 r7 a3
                    cases gy' : y.get e3 with
                    | none => rw [gy'] at k; exact k.elim
                    | some b' =>
                      cases gz : zc.get e3 with
                      | none => rw [gy', gz] at k; exact k.elim
                      | some c =>
                        rw [gy', gz] at k
                        obtain ⟨sc, r8⟩ := see_tmp r7 a3 gz
                        obtain ⟨sb', r9⟩ := see_tmp r8 a2 gy'
                        cases qg : g b' c with
                        | none => simp only [fin, qg] at k; exact k.elim
                        | some zg =>
                          simp only [fin, qg] at k
                          exact hg Z4 F4 P e3 T σ H4 b' c zg u w' Q qg sb' sc r9.appPop fun w5 Z5 F5 H5 s5 r10 => k w5 Z5 F5 H5 ((((s1.trans s2).trans s3).trans s4).trans s5) r10
              | _ => exact k.elim
            | _ => exact k.elim
theorem he_chain {a b c : Expr} {op op' : CmpOp} {r r'} {f g : O → O → Option O} {da db dc : En → Rs Ar} (ho : OpR X (compareOp op) r) (ho' : OpR X (compareOp op') r') (hf : BinOk (Cx.wd X cl) f r) (hg : BinOk (Cx.wd X cl) g r')
    (h : PE X (.Compare a [op, op'] [b, c] pos) (tChain r r' (rdV (Cx.wd X cl) Wo da) (rdV (Cx.wd X cl) Wo db) (rdV (Cx.wd X cl) Wo dc))) : HE X cl Wo (.Compare a [op, op'] [b, c] pos) (dChain f g da db dc) :=
  PE.imp h fun σ H Q h => rdChain hf hg h
theorem ht_chain {a b c : Expr} {op op' : CmpOp} {r r'} {f g : O → O → Option O} {da db dc : En → Rs Ar} (ho : OpR X (compareOp op) r) (ho' : OpR X (compareOp op') r') (hf : BinOk (Cx.wd X cl) f r) (hg : BinOk (Cx.wd X cl) g r')
    (h : PT X (.Compare a [op, op'] [b, c] pos) (tTest (tChain r r' (rdV (Cx.wd X cl) Wo da) (rdV (Cx.wd X cl) Wo db) (rdV (Cx.wd X cl) Wo dc)))) : HT X cl Wo (.Compare a [op, op'] [b, c] pos) (dTst (dChain f g da db dc)) :=
  PT.imp h fun σ H Q h => rdChain hf hg (rdT_of h)
/-! ### and, or, not -/
def HW (X : Cx) (cl : Cl) (Wo : WX) (e : Expr) (d : En → Rs Bool) : Prop := PW X e (rdT (Cx.wd X cl) Wo d)
def dAndT (a b : En → Rs Bool) : En → Rs Bool := fun e => (a e).bind fun k e1 => if k = true then b e1 else .ok false e1
def dOrT (a b : En → Rs Bool) : En → Rs Bool := fun e => (a e).bind fun k e1 => if k = true then .ok true e1 else b e1
def dNotT (a : En → Rs Bool) : En → Rs Bool := fun e => (a e).bind fun k e1 => .ok (!k) e1
theorem rdT_step {a : En → Rs Bool} {g : Bool → En → Rs Bool} {K : Bool → Hp → Prop} {Q : Bool → Hp → Prop} (h : rdT W Wo (fun e => (a e).bind g) σ H Q) (hk : ∀ b H1, rdT W Wo (g b) σ H1 Q → K b H1) : rdT W Wo a σ H K := by
  obtain ⟨Z, F, P, e, T, r0, k⟩ := h
  refine ⟨Z, F, P, e, T, r0, ?_⟩
  cases qa : a e with
  | bad => simp only [qa] at k; exact k
  | exc c ps e' => simp only [qa] at k; exact k
  | ok b e1 =>
    simp only [qa, Rs.bind] at k
    intro Z1 F1 H1 s1 r1
    refine hk b H1 ⟨Z1, F1, P, e1, T, r1, ?_⟩
    cases qb : g b e1 with
    | bad => rw [qb] at k; exact k
    | exc c ps e' => rw [qb] at k; exact XOk.step s1 k
    | ok b' e2 => rw [qb] at k; exact fun Z2 F2 H2 s2 r2 => k Z2 F2 H2 (s1.trans s2) r2
theorem rdT_ok {b : Bool} {Q : Bool → Hp → Prop} (h : rdT W Wo (fun e => .ok b e) σ H Q) : Q b H := by
  obtain ⟨Z, F, P, e, T, r0, k⟩ := h
  exact k Z F H .refl r0
theorem hw_and1 {a : Expr} {d} (h : HT X cl Wo a d) : HW X cl Wo (.BoolOp .And [a] pos) d := pw_and1 h
theorem hw_or1 {a : Expr} {d} (h : HT X cl Wo a d) : HW X cl Wo (.BoolOp .Or [a] pos) d := pw_or1 h
theorem hw_and {a b : Expr} {rest : List Expr} {d d'} (h : HT X cl Wo a d) (h' : HW X cl Wo (.BoolOp .And (b :: rest) pos) d') : HW X cl Wo (.BoolOp .And (a :: b :: rest) pos) (dAndT d d') :=
  PW.imp (pw_and h h') fun σ H Q h => rdT_step h fun b H1 q => by
    cases b with
    | true => exact iteT q
    | false => exact iteF (rdT_ok q)
theorem hw_or {a b : Expr} {rest : List Expr} {d d'} (h : HT X cl Wo a d) (h' : HW X cl Wo (.BoolOp .Or (b :: rest) pos) d') : HW X cl Wo (.BoolOp .Or (a :: b :: rest) pos) (dOrT d d') :=
  PW.imp (pw_or h h') fun σ H Q h => rdT_step h fun b H1 q => by
    cases b with
    | true => exact iteT (rdT_ok q)
    | false => exact iteF q
theorem ht_w {ex : Expr} {d} (h : HW X cl Wo ex d) : HT X cl Wo ex d := PW.pt h
theorem ht_not {a : Expr} {d} (h : HT X cl Wo a d) : HT X cl Wo (.UnaryOp .Not a pos) (dNotT d) :=
  PT.imp (pt_not h) fun σ H Q h => rdT_step h fun b H1 q => rdT_ok q
/-- as values -/
def dAndV (a b : En → Rs O) : En → Rs O := fun e => (dTst a e).bind fun k e1 => if k = true then b e1 else .ok (.d (.bl false)) e1
def dOrV (a b : En → Rs O) : En → Rs O := fun e => (dTst a e).bind fun k e1 => if k = true then .ok (.d (.bl true)) e1 else b e1
def dNotV (a : En → Rs O) : En → Rs O := fun e => (dTst a e).bind fun k e1 => .ok (.d (.bl (!k))) e1
theorem rdT_stepE {a : En → Rs Bool} {g : Bool → En → Rs O} {K : Bool → Hp → Prop} {Q : VK} (h : rdE W Wo (fun e => (a e).bind g) σ H Q) (hk : ∀ b H1, rdE W Wo (g b) σ H1 Q → K b H1) : rdT W Wo a σ H K := by
  obtain ⟨Z, F, P, e, T, r0, k⟩ := h
  refine ⟨Z, F, P, e, T, r0, ?_⟩
  cases qa : a e with
  | bad => simp only [qa] at k; exact k
  | exc c ps e' => simp only [qa] at k; exact k
  | ok b e1 =>
    simp only [qa, Rs.bind] at k
    intro Z1 F1 H1 s1 r1
    refine hk b H1 ⟨Z1, F1, P, e1, T, r1, ?_⟩
    cases qb : g b e1 with
    | bad => rw [qb] at k; exact k
    | exc c ps e' => rw [qb] at k; exact XOk.step s1 k
    | ok b' e2 => rw [qb] at k; exact fun v Z2 F2 H2 s2 r2 => k v Z2 F2 H2 (s1.trans s2) r2
theorem rdE_leaf {x : D} {v : V} {Q : VK} (hv : ∀ H Z, RD W H Z x v) (h : rdE W Wo (fun e => .ok (.d x) e) σ H Q) : Q v H := by
  obtain ⟨Z, F, P, e, T, r0, k⟩ := h
  exact k v Z F H .refl (r0.push (hv H Z))
theorem he_one {a : Expr} {op} {d} (h : HE X cl Wo a d) : HE X cl Wo (.BoolOp op [a] pos) d := pe_one h
theorem he_and {a b : Expr} {rest : List Expr} {d d'} (h : HE X cl Wo a d) (h' : HE X cl Wo (.BoolOp .And (b :: rest) pos) d') : HE X cl Wo (.BoolOp .And (a :: b :: rest) pos) (dAndV d d') :=
  PE.imp (pe_and h h') fun σ H Q h => rdT_of (rdT_stepE h fun b H1 q => by
    cases b with
    | true => exact iteT q
    | false => exact iteF (rdE_leaf (x := .bl false) (fun _ _ => rfl) q))
theorem he_or {a b : Expr} {rest : List Expr} {d d'} (h : HE X cl Wo a d) (h' : HE X cl Wo (.BoolOp .Or (b :: rest) pos) d') : HE X cl Wo (.BoolOp .Or (a :: b :: rest) pos) (dOrV d d') :=
  PE.imp (pe_or h h') fun σ H Q h => rdT_of (rdT_stepE h fun b H1 q => by
    cases b with
    | true => exact iteT (rdE_leaf (x := .bl true) (fun _ _ => rfl) q)
    | false => exact iteF q)
theorem he_not {a : Expr} {d} (h : HE X cl Wo a d) : HE X cl Wo (.UnaryOp .Not a pos) (dNotV d) :=
  PE.imp (pe_not h) fun σ H Q h => rdT_of (rdT_stepE h fun b H1 q => rdE_leaf (x := .bl (!b)) (fun _ _ => rfl) q)
def dIf (c : En → Rs Bool) (a b : En → Rs O) : En → Rs O := fun e => (c e).bind fun k e1 => if k = true then a e1 else b e1
theorem he_if {c a b : Expr} {dc da db} (hc : HT X cl Wo c dc) (ha : HE X cl Wo a da) (hb : HE X cl Wo b db) : HE X cl Wo (.IfExp c a b pos) (dIf dc da db) :=
  PE.imp (pe_ifExp hc ha hb) fun σ H Q h => rdT_stepE h fun b H1 q => by
    cases b with
    | true => exact iteT q
    | false => exact iteF q
/-! ### is None, ==, in -/
def O.isN : O → Bool
  | .d .non => true
  | _ => false
theorem See.isN {o : O} {v : V} (h : See W H Z o v) : decide (v = .non) = o.isN := by
  obtain ⟨f, h⟩ := h
  cases o with
  | d x =>
    obtain ⟨h, _⟩ := h
    cases x with
    | non => rw [show v = .non from h]; rfl
    | bl b => rw [show v = .bl b from h]; rfl
    | int i => rw [show v = .int i from h]; rfl
    | str i => rw [show v = .str i from h]; rfl
    | ty i => rw [show v = .ty i from h]; rfl
    | cls n => obtain ⟨a, _, rfl⟩ := h; rfl
    | adr a => rw [show v = .ref a from h]; rfl
    | tup xs => obtain ⟨a, vs, rfl, _⟩ := h; rfl
    | lst xs => obtain ⟨a, vs, rfl, _⟩ := h; rfl
    | dic ks xs => obtain ⟨a, vs, rfl, _⟩ := h; rfl
    | obj c ns xs => obtain ⟨a, C, dx, fs, rfl, _⟩ := h; rfl
  | lst xs => obtain ⟨a, vs, f', rfl, _⟩ := h; rfl
  | dic ks xs => obtain ⟨a, vs, f', rfl, _⟩ := h; rfl
  | obj c ns xs => obtain ⟨a, C, dx, fs, f', rfl, _⟩ := h; rfl
def fIsN : O → O → Option O
  | a, .d .non => some (.d (.bl a.isN))
  | _, _ => none
theorem bIsN : BinOk W fIsN (fun x y H Q => y = .non ∧ Q (.bl (decide (x = .non))) H) := by
  intro Z F P e T σ H a b z v u Q hf sa sb rs k
  unfold fIsN at hf
  split at hf
  · cases hf
    exact ⟨sb.d, by rw [sa.isN]; exact done_leaf (x := .bl a.isN) rs (fun _ _ => rfl) k⟩
  · cases hf
def fNotN : O → O → Option O
  | a, .d .non => some (.d (.bl (!a.isN)))
  | _, _ => none
theorem bNotN : BinOk W fNotN (fun x y H Q => y = .non ∧ Q (.bl (!decide (x = .non))) H) := by
  intro Z F P e T σ H a b z v u Q hf sa sb rs k
  unfold fNotN at hf
  split at hf
  · cases hf
    exact ⟨sb.d, by rw [sa.isN]; exact done_leaf (x := .bl (!a.isN)) rs (fun _ _ => rfl) k⟩
  · cases hf
mutual
def D.py : D → Option PyData
  | .non => some .none
  | .bl b => some (.bool b)
  | .int i => some (.int i)
  | .str s => some (.str s)
  | .tup xs => (pys xs).map .tuple
  | .lst xs => (pys xs).map .list
  | _ => none
def pys : List D → Option (List PyData)
  | [] => some []
  | x :: xs => match x.py, pys xs with
    | some p, some ps => some (p :: ps)
    | _, _ => none
end
mutual
theorem RD.dp : ∀ (d : D) (v : V) (p : PyData), RD W H Z d v → d.py = some p → Dp W.K H v p
  | .non, v, p, h, e => by cases e; rw [show v = .non from h]; exact .non
  | .bl b, v, p, h, e => by cases e; rw [show v = .bl b from h]; exact .bl b
  | .int b, v, p, h, e => by cases e; rw [show v = .int b from h]; exact .int b
  | .str b, v, p, h, e => by cases e; rw [show v = .str b from h]; exact .str b
  | .tup xs, v, p, ⟨a, vs, ev, hh, r⟩, e => by
    cases q : pys xs with
    | none => simp [D.py, q] at e
    | some ps =>
      simp only [D.py, q, Option.map_some, Option.some.injEq] at e
      subst e ev
      exact .tup hh.sq (RDs.dp xs vs ps r q)
  | .lst xs, v, p, ⟨a, vs, ev, hh, r⟩, e => by
    cases q : pys xs with
    | none => simp [D.py, q] at e
    | some ps =>
      simp only [D.py, q, Option.map_some, Option.some.injEq] at e
      subst e ev
      exact .lst (.inl hh.2) (RDs.dp xs vs ps r q)
  | .ty _, _, _, _, e => by cases e
  | .cls _, _, _, _, e => by cases e
  | .adr _, _, _, _, e => by cases e
  | .dic _ _, _, _, _, e => by cases e
  | .obj _ _ _, _, _, _, e => by cases e
theorem RDs.dp : ∀ (ds : List D) (vs : List V) (ps : List PyData), RDs W H Z ds vs → pys ds = some ps → DpAll W.K H vs ps
  | [], vs, ps, h, e => by cases e; rw [show vs = [] from h]; exact .nil
  | d :: ds, vs, ps, ⟨v, r, ev, h1, h2⟩, e => by
    cases q1 : d.py with
    | none => simp [pys, q1] at e
    | some p =>
      cases q2 : pys ds with
      | none => simp [pys, q1, q2] at e
      | some qs =>
        simp only [pys, q1, q2, Option.some.injEq] at e
        subst e ev
        exact .cons (RD.dp d v p h1 q1) (RDs.dp ds r qs h2 q2)
end
/-- two flat things of one kind -/
def deqS (a b : O) : Option Bool := match a, b with
  | .d (.int i), .d (.int j) => some (decide (i = j))
  | .d (.str i), .d (.str j) => some (decide (i = j))
  | .d (.bl i), .d (.bl j) => some (decide (i = j))
  | _, _ => none
/-- data of any depth -/
def deqD (a b : O) : Option Bool := match a.fz.py, b.fz.py with
  | some p, some q => if (SeqAt.shaped p && SeqAt.shaped q) = true then some (PyData.eqv p q) else none
  | _, _ => none
def deq (a b : O) : Option Bool := match deqS a b with
  | some c => some c
  | none => deqD a b
theorem deqS_ok {a b : O} {v u : V} {c : Bool} (h : deqS a b = some c) (sa : See W H Z a v) (sb : See W H Z b u) : scal v u = true ∧ decide (v = u) = c := by
  unfold deqS at h
  split at h
  · rename_i i j; cases h
    rw [sa.int, sb.int]
    exact ⟨rfl, by simp⟩
  · rename_i i j; cases h
    rw [sa.str, sb.str]
    exact ⟨rfl, by simp⟩
  · rename_i i j; cases h
    rw [sa.bl, sb.bl]
    exact ⟨rfl, by simp⟩
  · cases h
theorem deqD_ok {a b : O} {v u : V} {c : Bool} (h : deqD a b = some c) (sa : See W H Z a v) (sb : See W H Z b u) : ∃ p q, Dp W.K H v p ∧ Dp W.K H u q ∧ SeqAt.shaped p = true ∧ SeqAt.shaped q = true ∧ PyData.eqv p q = c := by
  unfold deqD at h
  split at h
  · rename_i p q hp hq
    split at h
    · rename_i hs; cases h
      rw [Bool.and_eq_true] at hs
      exact ⟨p, q, RD.dp _ _ _ sa.all hp, RD.dp _ _ _ sb.all hq, hs.1, hs.2, rfl⟩
    · cases h
  · cases h
def fEq : O → O → Option O := fun a b => (deq a b).map fun c => .d (.bl c)
def fNe : O → O → Option O := fun a b => (deq a b).map fun c => .d (.bl (!c))
theorem bEq : BinOk W fEq (fun x y H Q => rEq x y H Q ∨ rEqD W.K x y H Q) := by
  intro Z F P e T σ H a b z v u Q hf sa sb rs k
  unfold fEq deq at hf
  cases q1 : deqS a b with
  | some c =>
    rw [q1] at hf; cases hf
    obtain ⟨h1, h2⟩ := deqS_ok q1 sa sb
    exact .inl ⟨h1, by rw [h2]; exact done_leaf (x := .bl c) rs (fun _ _ => rfl) k⟩
  | none =>
    rw [q1] at hf
    cases q : deqD a b with
    | none => rw [q] at hf; cases hf
    | some c =>
      rw [q] at hf; cases hf
      obtain ⟨p, p', h1, h2, h3, h4, h5⟩ := deqD_ok q sa sb
      exact .inr ⟨p, p', h1, h2, h3, h4, by rw [h5]; exact done_leaf (x := .bl c) rs (fun _ _ => rfl) k⟩
theorem bNe : BinOk W fNe (fun x y H Q => rNe x y H Q ∨ rNeD W.K x y H Q) := by
  intro Z F P e T σ H a b z v u Q hf sa sb rs k
  unfold fNe deq at hf
  cases q1 : deqS a b with
  | some c =>
    rw [q1] at hf; cases hf
    obtain ⟨h1, h2⟩ := deqS_ok q1 sa sb
    exact .inl ⟨h1, by rw [h2]; exact done_leaf (x := .bl (!c)) rs (fun _ _ => rfl) k⟩
  | none =>
    rw [q1] at hf
    cases q : deqD a b with
    | none => rw [q] at hf; cases hf
    | some c =>
      rw [q] at hf; cases hf
      obtain ⟨p, p', h1, h2, h3, h4, h5⟩ := deqD_ok q sa sb
      exact .inr ⟨p, p', h1, h2, h3, h4, by rw [h5]; exact done_leaf (x := .bl (!c)) rs (fun _ _ => rfl) k⟩
/-- flat values -/
def D.flat : D → Option V
  | .non => some .non
  | .bl b => some (.bl b)
  | .int i => some (.int i)
  | .str s => some (.str s)
  | _ => none
theorem RD.flat {d : D} {v w : V} (h : RD W H Z d v) (q : d.flat = some w) : v = w ∧ flatV v = true := by
  cases d <;> first
    | (cases q; exact ⟨h, by rw [show v = _ from h]; rfl⟩)
    | cases q
def flats : List D → Option (List V)
  | [] => some []
  | d :: ds => match d.flat, flats ds with
    | some v, some vs => some (v :: vs)
    | _, _ => none
theorem RDs.flats : ∀ {ds : List D} {vs ws : List V}, RDs W H Z ds vs → flats ds = some ws → vs = ws ∧ vs.all flatV = true
  | [], vs, ws, h, e => by cases e; rw [show vs = [] from h]; exact ⟨rfl, rfl⟩
  | d :: ds, vs, ws, ⟨v, r, ev, h1, h2⟩, e => by
    cases q1 : d.flat with
    | none => simp [MX.flats, q1] at e
    | some p =>
      cases q2 : MX.flats ds with
      | none => simp [MX.flats, q1, q2] at e
      | some qs =>
        simp only [MX.flats, q1, q2, Option.some.injEq] at e
        subst e ev
        obtain ⟨a1, a2⟩ := h1.flat q1
        obtain ⟨b1, b2⟩ := RDs.flats h2 q2
        exact ⟨by rw [a1, b1], by rw [List.all_cons, a2, b2]; rfl⟩
def O.items : O → Option (List D)
  | .lst os => leafs os
  | .d (.lst ds) => some ds
  | .d (.tup ds) => some ds
  | _ => none
theorem See.seq {o : O} {v : V} {ds : List D} (h : See W H Z o v) (q : o.items = some ds) : ∃ a vs, v = .ref a ∧ (SqL W.K H a vs ∨ SqT W.K H a vs) ∧ RDs W H Z ds vs := by
  cases o with
  | lst os =>
    obtain ⟨a, vs, e, h1, r⟩ := h.list (ds := ds) q
    exact ⟨a, vs, e, .inl h1, r⟩
  | d x =>
    cases x with
    | lst es =>
      obtain ⟨a, vs, e, h1, r⟩ := h.list (ds := ds) q
      exact ⟨a, vs, e, .inl h1, r⟩
    | tup es =>
      obtain ⟨a, vs, e, h1, r⟩ := h.tuple (ds := ds) q
      exact ⟨a, vs, e, .inr h1, r⟩
    | _ => cases q
  | _ => cases q
def din (a b : O) : Option Bool := match a, b.items with
  | .d x, some ds => match x.flat, flats ds with
    | some v, some vs => some (inV v vs)
    | _, _ => none
  | _, _ => none
theorem din_ok {a b : O} {v u : V} {c : Bool} (h : din a b = some c) (sa : See W H Z a v) (sb : See W H Z b u) : ∃ p xs, u = .ref p ∧ (SqL W.K H p xs ∨ SqT W.K H p xs) ∧ flatV v = true ∧ xs.all flatV = true ∧ inV v xs = c := by
  unfold din at h
  split at h
  · rename_i x ds hb
    split at h
    · rename_i w ws h1 h2; cases h
      obtain ⟨p, vs, e, hq, r⟩ := sb.seq hb
      obtain ⟨a1, a2⟩ := sa.d.flat h1
      obtain ⟨b1, b2⟩ := r.flats h2
      exact ⟨p, vs, e, hq, a2, b2, by rw [a1, b1]⟩
    · cases h
  · cases h
def fIn : O → O → Option O := fun a b => (din a b).map fun c => .d (.bl c)
def fNin : O → O → Option O := fun a b => (din a b).map fun c => .d (.bl (!c))
theorem bIn : BinOk W fIn (rIn W.K false) := by
  intro Z F P e T σ H a b z v u Q hf sa sb rs k
  unfold fIn at hf
  cases q : din a b with
  | none => rw [q] at hf; cases hf
  | some c =>
    rw [q] at hf; cases hf
    obtain ⟨p, xs, h1, h2, h3, h4, h5⟩ := din_ok q sa sb
    exact ⟨p, xs, h1, h2, h3, h4, by rw [h5]; exact done_leaf (x := .bl c) rs (fun _ _ => rfl) k⟩
theorem bNin : BinOk W fNin (rIn W.K true) := by
  intro Z F P e T σ H a b z v u Q hf sa sb rs k
  unfold fNin at hf
  cases q : din a b with
  | none => rw [q] at hf; cases hf
  | some c =>
    rw [q] at hf; cases hf
    obtain ⟨p, xs, h1, h2, h3, h4, h5⟩ := din_ok q sa sb
    exact ⟨p, xs, h1, h2, h3, h4, by rw [h5]; exact done_leaf (x := .bl (!c)) rs (fun _ _ => rfl) k⟩
end
end MX

/-! MX5: argument lists, displays, built-in calls. -/
namespace MX
open PySem L2
section
variable {X : Cx} {cl : Cl} {Wo : WX} {pos : Pos}
variable {W : Wd} {Z F Z' F' : Addr → Prop} {P : Nat → V} {e : En} {T : Ts} {σ : L2.St} {H H' : Hp} {Q : VK}
theorem Rs.bind_ok {α β : Type} {x : α} {f : α → En → Rs β} : (Rs.ok x e).bind f = f x e := rfl
/-! ### values made, as a list -/
def aNil : En → Rs (List O) := fun e => .ok [] e
def aCons (d : En → Rs O) (r : En → Rs (List O)) : En → Rs (List O) := fun e => (d e).bind fun o e1 => (r e1).bind fun os e2 => .ok (o :: os) e2
theorem ha_nil : HA X cl Wo [] aNil := PA.imp pa_nil fun σ H Q ⟨Z, F, P, e, T, r, k⟩ => k [] Z F H rfl .refl r
theorem rdA_cons {d : En → Rs O} {r : En → Rs (List O)} {g : O → List O → List O} {gv : V → List V → List V} {Q : List V → Hp → Prop} (hl : ∀ o os v vs, os.length = vs.length → (g o os).length = (gv v vs).length)
    (hp : ∀ o os v vs, os.length = vs.length → ((os.zip vs) ++ [(o, v)]).Perm ((g o os).zip (gv v vs)))
    (h : rdA W Wo (fun e => (d e).bind fun o e1 => (r e1).bind fun os e2 => .ok (g o os) e2) σ H Q) : rdE W Wo d σ H fun x H1 => rdA W Wo r σ H1 fun xs H2 => Q (gv x xs) H2 := by
  obtain ⟨Z, F, P, e, T, r0, k⟩ := h
  refine ⟨Z, F, P, e, T, r0, ?_⟩
  cases qa : d e with
  | bad => simp only [qa] at k; exact k
  | exc c ps e' => simp only [qa] at k; exact k
  | ok o e1 =>
    simp only [qa, Rs.bind_ok] at k
    intro v Z1 F1 H1 s1 r1
    refine ⟨Z1, F1, P, e1, (o, v) :: T, r1, ?_⟩
    cases qb : r e1 with
    | bad => simp only [qb] at k; exact k
    | exc c ps e' => simp only [qb] at k; exact XOk.popped (XOk.step s1 k)
    | ok os e2 =>
      simp only [qb] at k
      intro vs Z2 F2 H2 hlen s2 r2
      refine k (gv v vs) Z2 F2 H2 (hl o os v vs hlen) (s1.trans s2) (r2.perm ?_)
      have := (hp o os v vs hlen).append_right T
      rw [List.append_assoc] at this
      exact this
theorem ha_cons {a : Expr} {es : List Expr} {d r} (ha : HE X cl Wo a d) (hr : HA X cl Wo es r) (hs : starEach (a :: es) X.env = (false, eval a X.env) :: starEach es X.env := by rfl) : HA X cl Wo (a :: es) (aCons d r) :=
  PA.imp (pa_cons ha hr hs) fun σ H Q h => rdA_cons (g := fun o os => o :: os) (gv := fun v vs => v :: vs) (fun o os v vs h => by rw [List.length_cons, List.length_cons, h]) (fun o os v vs h => by
    rw [List.zip_cons_cons]
    exact List.perm_append_comm) h
/-- all held values of a list made known -/
theorem RS.freezeAll : ∀ {os : List O} {vs : List V} {Z F : Addr → Prop} {T : Ts}, os.length = vs.length → RS W Z F P e (os.zip vs ++ T) σ H → ∃ Z' F', Stp Z F H Z' F' H ∧ RS W Z' F' P e T σ H ∧ RDs W H Z' (fzs os) vs
  | [], vs, Z, F, T, hl, r => by
    have : vs = [] := List.length_eq_zero_iff.mp hl.symm
    subst this
    exact ⟨Z, F, .refl, r, rfl⟩
  | o :: os, [], _, _, _, hl, _ => by cases hl
  | o :: os, v :: vs, Z, F, T, hl, r => by
    have hl' : os.length = vs.length := Nat.succ.inj hl
    have r1 : RS W Z F P e ((o, v) :: (os.zip vs ++ T)) σ H := r
    obtain ⟨Z1, F1, s1, r2⟩ := r1.freeze
    have r3 : RS W Z1 F1 P e (os.zip vs ++ ((.d o.fz, v) :: T)) σ H := r2.perm List.perm_middle.symm
    obtain ⟨Z2, F2, s2, r4, rd⟩ := RS.freezeAll hl' r3
    exact ⟨Z2, F2, s1.trans s2, r4.pop, v, vs, rfl, r4.topD, rd⟩
/-- a tuple display -/
def dTup (d : En → Rs (List O)) : En → Rs O := fun e => (d e).bind fun os e1 => if os.length ≤ sizeLine then .ok (.d (.tup (fzs os))) e1 else .bad
theorem rdA_step {d : En → Rs (List O)} {g : List O → En → Rs O} {K : List V → Hp → Prop} (h : rdE W Wo (fun e => (d e).bind g) σ H Q)
    (hk : ∀ Z F P e T H1 os vs, os.length = vs.length → RS W Z F P e (os.zip vs ++ T) σ H1 → PostE W Wo Z F P T σ H1 Q (g os e) → K vs H1) : rdA W Wo d σ H K := by
  obtain ⟨Z, F, P, e, T, r0, k⟩ := h
  refine ⟨Z, F, P, e, T, r0, ?_⟩
  cases qa : d e with
  | bad => simp only [qa] at k; exact k
  | exc c ps e' => simp only [qa] at k; exact k
  | ok os e1 =>
    simp only [qa, Rs.bind_ok] at k
    intro vs Z1 F1 H1 hl s1 r1
    refine hk Z1 F1 P e1 T H1 os vs hl r1 ?_
    cases qb : g os e1 with
    | bad => rw [qb] at k; exact k
    | exc c ps e' => rw [qb] at k; exact XOk.step s1 k
    | ok b' e2 => rw [qb] at k; exact fun v Z2 F2 H2 s2 r2 => k v Z2 F2 H2 (s1.trans s2) r2
theorem he_tup {es : List Expr} {x1} {d} (h : HA X cl Wo es d) : HE X cl Wo (.Tuple es x1 pos) (dTup d) :=
  PE.imp (pe_tupN h) fun σ H Q h => rdA_step h fun Z F P e T H1 os vs hl r k => by
    split at k
    · rename_i q
      refine ⟨by rw [← hl]; exact q, fun p o hp ho => ?_⟩
      obtain ⟨Z', F', s1, r1, rd⟩ := r.freezeAll hl
      exact k _ Z' F' _ (s1.trans (Stp.alloc hp)) (r1.newT rd hp ho)
    · exact k.elim
/-- a new list that owns what is put into it -/
theorem RS.newO {os : List O} {vs : List V} {p : Addr} (r : RS W Z F P e (os.zip vs ++ T) σ H) (hl : os.length = vs.length) (hp : H p = none) : RS W Z (fun a => F a ∨ a = p) P e ((.lst os, .ref p) :: T) σ (upd H p (.lst vs)) := by
  obtain ⟨⟨fe, ft, h1, h2, nd, hF⟩, sep, zin, fin, pin, px⟩ := r
  have k := same_upd (o := .lst vs) hp
  have kp : Kp H Z (upd H p (.lst vs)) Z := ⟨fun _ h => h, fun a o _ h => k a o h, fun a _ h => k a _ h, fun a _ _ h => k a _ h⟩
  have pF : ∀ a, F a → a ≠ p := fun a fa z => by subst z; exact notMut_none hp (fin a fa)
  rw [List.map_append, List.map_append, List.map_fst_zip (Nat.le_of_eq hl), List.map_snd_zip (Nat.le_of_eq hl.symm)] at h2
  obtain ⟨vs', us, f1, f2, ew, ef, a1, a2⟩ := h2.split
  have hvs : vs' = vs ∧ us = T.map (·.2) := by
    have hl2 : vs'.length = vs.length := by rw [← a1.len, hl]
    have := List.append_inj ew hl2.symm
    exact ⟨this.1.symm, this.2.symm⟩
  obtain ⟨rfl, rfl⟩ := hvs
  subst ef
  refine ⟨⟨fe, p :: (f1 ++ f2), h1.keep kp _ _ _ fun a _ u q => k a u q, ⟨.ref p, _, p :: f1, f2, rfl, rfl, ⟨p, vs', f1, rfl, upd_same, rfl, a1.keep kp _ _ _ fun a _ u q => k a u q⟩, a2.keep kp _ _ _ fun a _ u q => k a u q⟩, ?_, fun a ha => ?_⟩, fun a ha z => ?_, fun a z q => ?_, fun a ha => ?_, pin, px⟩
  · rw [List.perm_middle.nodup_iff, List.nodup_cons]
    exact ⟨fun z => pF p (hF p z) rfl, nd⟩
  · rcases List.mem_append.mp ha with q | q
    · exact .inl (hF a (List.mem_append_left _ q))
    · rcases List.mem_cons.mp q with q | q
      · exact .inr q
      · exact .inl (hF a (List.mem_append_right _ q))
  · rcases ha with ha | ha
    · exact sep a ha z
    · subst ha; exact zin a z hp
  · exact dom_upd a (zin a z) q
  · rcases ha with ha | ha
    · rw [upd_ne (pF a ha)]; exact fin a ha
    · rw [ha, upd_same]; trivial
def dLst (d : En → Rs (List O)) : En → Rs O := fun e => (d e).bind fun os e1 => if os.length ≤ sizeLine then .ok (.lst os) e1 else .bad
theorem he_lst {es : List Expr} {d} (h : HA X cl Wo es d) : HE X cl Wo (.List es pos) (dLst d) :=
  PE.imp (pe_lst h) fun σ H Q h => rdA_step h fun Z F P e T H1 os vs hl r k => by
    split at k
    · rename_i q
      exact ⟨by rw [← hl]; exact q, fun p hp => k _ Z _ _ (Stp.allocF hp) (r.newO hl hp)⟩
    · exact k.elim
/-- *e in a display: the items, known -/
def aStar (d : En → Rs Ar) (r : En → Rs (List O)) : En → Rs (List O) := fun e => (d e).bind fun x e1 => match x.get e1 with
  | some a => match a.items with
    | some ds => (r e1).bind fun os e2 => .ok (ds.map .d ++ os) e2
    | none => .bad
  | none => .bad
theorem ros_leaf : ∀ {ds : List D} {vs : List V}, RDs W H Z ds vs → ∀ {T : Ts}, RS W Z F P e T σ H → RS W Z F P e ((ds.map O.d).zip vs ++ T) σ H
  | [], vs, h, T, r => by
    have : vs = [] := h
    subst this; exact r
  | d :: ds, vs, ⟨v, rr, ev, h1, h2⟩, T, r => by
    subst ev
    exact (ros_leaf h2 r).push h1
theorem ha_star {a : Expr} {p : Pos} {es : List Expr} {d r} (ha : HV X cl Wo a d) (hr : HA X cl Wo es r) (hs : starEach (.Starred a p :: es) X.env = (true, eval a X.env) :: starEach es X.env := by rfl) : HA X cl Wo (.Starred a p :: es) (aStar d r) :=
  PA.imp (StX.pa_star ha hr hs) fun σ H Q ⟨Z, F, P, e, T, r0, k⟩ => by
    refine ⟨Z, F, P, e, T, r0, ?_⟩
    unfold aStar at k
    cases qa : d e with
    | bad => simp only [qa] at k; exact k
    | exc c ps e' => simp only [qa] at k; exact k
    | ok x e1 =>
      simp only [qa, Rs.bind_ok] at k
      intro v Z1 F1 H1 s1 r1 a1
      cases gx : x.get e1 with
      | none => rw [gx] at k; exact k.elim
      | some a =>
        rw [gx] at k
        simp only at k
        cases gi : a.items with
        | none => rw [gi] at k; exact k.elim
        | some ds =>
          rw [gi] at k
          simp only at k
          obtain ⟨sa, r2⟩ := see_tmp r1 a1 gx
          obtain ⟨c, vs, ev, hq, rd⟩ := sa.seq gi
          refine ⟨c, vs, ev, hq.elim .inr .inl, Z1, F1, P, e1, (ds.map O.d).zip vs ++ T, ros_leaf rd r2, ?_⟩
          cases qb : r e1 with
          | bad => simp only [qb] at k; exact k.elim
          | exc c ps e' => simp only [qb] at k; exact XOk.pops (XOk.step s1 k)
          | ok os e2 =>
            simp only [qb] at k
            intro ws Z2 F2 H2 hl s2 r3
            refine k (vs ++ ws) Z2 F2 H2 (by rw [List.length_append, List.length_append, List.length_map, rd.len, hl]) (s1.trans s2) (r3.perm ?_)
            rw [List.zip_append (by rw [List.length_map, rd.len]), ← List.append_assoc]
            exact List.Perm.append_right _ List.perm_append_comm
/-! ### operands, as a list -/
def tmps : List Ar → List V → Ts
  | x :: xs, v :: vs => tmps xs vs ++ x.tmp v
  | _, _ => []
def ats (σ : L2.St) : List Ar → List V → Prop
  | x :: xs, v :: vs => x.at σ v ∧ ats σ xs vs
  | _, _ => True
def gets (e : En) : List Ar → Option (List O)
  | [] => some []
  | x :: xs => match x.get e, gets e xs with
    | some o, some os => some (o :: os)
    | _, _ => none
def PostVs (W : Wd) (Wo : WX) (Z F : Addr → Prop) (P : Nat → V) (T : Ts) (σ : L2.St) (H : Hp) (Q : List V → Hp → Prop) : Rs (List Ar) → Prop
  | .ok xs e => ∀ vs Z' F' H', xs.length = vs.length → Stp Z F H Z' F' H' → RS W Z' F' P e (tmps xs vs ++ T) σ H' → ats σ xs vs → Q vs H'
  | .exc c ps e => XOk W Wo Z F P T σ H c ps e
  | .bad => False
def rdVs (W : Wd) (Wo : WX) (d : En → Rs (List Ar)) : TA := fun σ H Q => ∃ Z F P e T, RS W Z F P e T σ H ∧ PostVs W Wo Z F P T σ H Q (d e)
def HVs (X : Cx) (cl : Cl) (Wo : WX) (es : List Expr) (d : En → Rs (List Ar)) : Prop := PA X es (rdVs (Cx.wd X cl) Wo d)
def vNil : En → Rs (List Ar) := fun e => .ok [] e
def vCons (d : En → Rs Ar) (r : En → Rs (List Ar)) : En → Rs (List Ar) := fun e => (d e).bind fun x e1 => (r e1).bind fun xs e2 => .ok (x :: xs) e2
theorem hvs_nil : HVs X cl Wo [] vNil := PA.imp pa_nil fun σ H Q ⟨Z, F, P, e, T, r, k⟩ => k [] Z F H rfl .refl r trivial
theorem hvs_cons {a : Expr} {es : List Expr} {d r} (ha : HV X cl Wo a d) (hr : HVs X cl Wo es r) (hs : starEach (a :: es) X.env = (false, eval a X.env) :: starEach es X.env := by rfl) : HVs X cl Wo (a :: es) (vCons d r) :=
  PA.imp (pa_cons ha hr hs) fun σ H Q ⟨Z, F, P, e, T, r0, k⟩ => by
    refine ⟨Z, F, P, e, T, r0, ?_⟩
    unfold vCons at k
    cases qa : d e with
    | bad => simp only [qa] at k; exact k
    | exc c ps e' => simp only [qa] at k; exact k
    | ok x e1 =>
      simp only [qa, Rs.bind_ok] at k
      intro v Z1 F1 H1 s1 r1 a1
      refine ⟨Z1, F1, P, e1, x.tmp v ++ T, r1, ?_⟩
      cases qb : r e1 with
      | bad => simp only [qb] at k; exact k
      | exc c ps e' => simp only [qb] at k; exact XOk.pops (XOk.step s1 k)
      | ok xs e2 =>
        simp only [qb] at k
        intro vs Z2 F2 H2 hl s2 r2 a2
        exact k (v :: vs) Z2 F2 H2 (by rw [List.length_cons, List.length_cons, hl]) (s1.trans s2) (by rw [show tmps (x :: xs) (v :: vs) = tmps xs vs ++ x.tmp v from rfl, List.append_assoc]; exact r2) ⟨a1, a2⟩
/-- all are looked at -/
def Sees (W : Wd) (H : Hp) (Z : Addr → Prop) : List O → List V → Prop
  | [], [] => True
  | o :: os, v :: vs => See W H Z o v ∧ Sees W H Z os vs
  | _, _ => False
theorem sees_tmps : ∀ {xs : List Ar} {vs : List V} {os : List O} {T : Ts}, xs.length = vs.length → RS W Z F P e (tmps xs vs ++ T) σ H → ats σ xs vs → gets e xs = some os → Sees W H Z os vs ∧ RS W Z F P e T σ H
  | [], [], os, T, _, r, _, g => by cases g; exact ⟨trivial, r⟩
  | [], _ :: _, _, _, hl, _, _, _ => by cases hl
  | _ :: _, [], _, _, hl, _, _, _ => by cases hl
  | x :: xs, v :: vs, os, T, hl, r, a, g => by
    unfold gets at g
    cases g1 : x.get e with
    | none => rw [g1] at g; cases g
    | some o =>
      cases g2 : gets e xs with
      | none => rw [g1, g2] at g; cases g
      | some ps =>
        rw [g1, g2] at g
        cases g
        rw [show tmps (x :: xs) (v :: vs) = tmps xs vs ++ x.tmp v from rfl, List.append_assoc] at r
        obtain ⟨h1, h2⟩ := sees_tmps (Nat.succ.inj hl) r a.2 g2
        obtain ⟨h3, h4⟩ := see_tmp h2 a.1 g1
        exact ⟨⟨h3, h1⟩, h4⟩
def dCall (f : List O → Option O) (d : En → Rs (List Ar)) : En → Rs O := fun e => (d e).bind fun xs e1 => match gets e1 xs with
  | some os => fin (f os) e1
  | none => .bad
def CallOk (W : Wd) (f : List O → Option O) (r : List V → Hp → VK → Prop) : Prop :=
  ∀ Z F P e T σ H os z vs Q, f os = some z → Sees W H Z os vs → RS W Z F P e T σ H → (∀ w Z' F' H', Stp Z F H Z' F' H' → RS W Z' F' P e ((z, w) :: T) σ H' → Q w H') → r vs H Q
theorem rdCall {f : List O → Option O} {r : List V → Hp → VK → Prop} {d : En → Rs (List Ar)} (hf : CallOk W f r) (h : rdE W Wo (dCall f d) σ H Q) : rdVs W Wo d σ H fun vs H1 => r vs H1 Q := by
  obtain ⟨Z, F, P, e, T, r0, k⟩ := h
  refine ⟨Z, F, P, e, T, r0, ?_⟩
  unfold dCall at k
  cases qa : d e with
  | bad => rw [qa] at k; exact k
  | exc c ps e' => rw [qa] at k; exact k
  | ok xs e1 =>
    intro vs Z1 F1 H1 hl s1 r1 a1
    rw [qa] at k
    simp only [Rs.bind_ok] at k
    cases g : gets e1 xs with
    | none => rw [g] at k; exact k.elim
    | some os =>
      rw [g] at k
      obtain ⟨ss, r2⟩ := sees_tmps hl r1 a1 g
      cases qz : f os with
      | none => simp only [fin, qz] at k; exact k.elim
      | some z =>
        simp only [fin, qz] at k
        exact hf Z1 F1 P e1 T σ H1 os z vs Q qz ss r2 fun w Z' F' H' s3 r5 => k w Z' F' H' (s1.trans s3) r5
theorem he_callB {x : Str} {p : Pos} {a : Expr} {es : List Expr} {id : String} {r} {f} {d} (hc : CallR X (.builtin id) r) (hf : CallOk (Cx.wd X cl) f r) (hg : Gl X x) (hm : X.mg x = none) (hv : bootBuiltins x = some (.builtin id)) (ha : HVs X cl Wo (a :: es) d) (hn : x ≠ "__name__" := by decide) (hdb : (x == ("__debug__" : Str)) = false := by decide)
    (he : starEach (a :: es) X.env = (false, eval a X.env) :: starEach es X.env := by rfl) (hpl : (backTo pos (starEach es X.env)).any (·.1) = false := by rfl) : HE X cl Wo (.Call (.Name x p) (a :: es) [] pos) (dCall f d) :=
  PE.imp (pe_callB hc hg hm hv ha hn hdb he hpl) fun σ H Q h => rdCall hf h
theorem he_callTy {x : Str} {p : Pos} {a : Expr} {es : List Expr} {id : String} {r} {f} {d} (hc : CallR X (.type id) r) (hf : CallOk (Cx.wd X cl) f r) (hg : Gl X x) (hm : X.mg x = none) (hv : bootBuiltins x = some (.type id)) (ha : HVs X cl Wo (a :: es) d) (hn : x ≠ "__name__" := by decide) (hdb : (x == ("__debug__" : Str)) = false := by decide)
    (he : starEach (a :: es) X.env = (false, eval a X.env) :: starEach es X.env := by rfl) (hpl : (backTo pos (starEach es X.env)).any (·.1) = false := by rfl) : HE X cl Wo (.Call (.Name x p) (a :: es) [] pos) (dCall f d) :=
  PE.imp (pe_callTy hc hg hm hv ha hn hdb he hpl) fun σ H Q h => rdCall hf h
/-! ### the built-in functions -/
theorem Sees.one {o : O} {vs : List V} (h : Sees W H Z [o] vs) : ∃ v, vs = [v] ∧ See W H Z o v := by
  match vs, h with
  | [v], ⟨h, _⟩ => exact ⟨v, rfl, h⟩
theorem Sees.two {o p : O} {vs : List V} (h : Sees W H Z [o, p] vs) : ∃ v u, vs = [v, u] ∧ See W H Z o v ∧ See W H Z p u := by
  match vs, h with
  | [v, u], ⟨h, h', _⟩ => exact ⟨v, u, rfl, h, h'⟩
/-- one argument -/
def on1 (f : O → Option O) : List O → Option O
  | [o] => f o
  | _ => none
theorem on1_some {f : O → Option O} {os : List O} {z : O} (h : on1 f os = some z) : ∃ o, os = [o] ∧ f o = some z := by
  unfold on1 at h
  split at h
  · exact ⟨_, rfl, h⟩
  · cases h
def fLen : O → Option O
  | .lst os => some (.d (.int os.length))
  | .d (.lst ds) => some (.d (.int ds.length))
  | .d (.tup ds) => some (.d (.int ds.length))
  | _ => none
theorem cLen : CallOk W (on1 fLen) (fun xs H Q => ∃ p ys, xs = [.ref p] ∧ (SqL W.K H p ys ∨ SqT W.K H p ys) ∧ Q (.int ys.length) H) := by
  intro Z F P e T σ H os z vs Q hf ss rs k
  obtain ⟨o, rfl, hg⟩ := on1_some hf
  clear hf
  obtain ⟨v, rfl, s⟩ := ss.one
  unfold fLen at hg
  split at hg
  · rename_i os
    cases hg
    obtain ⟨f, a, us, f', e, hh, ef, r⟩ := s
    exact ⟨a, us, by rw [e], .inl (.inl (.inl hh)), by rw [← r.len]; exact done_leaf (x := .int os.length) rs (fun _ _ => rfl) k⟩
  · rename_i ds
    cases hg
    obtain ⟨a, us, e, h1, r⟩ := s.list (ds := ds) rfl
    exact ⟨a, us, by rw [e], .inl h1, by rw [← r.len]; exact done_leaf (x := .int ds.length) rs (fun _ _ => rfl) k⟩
  · rename_i ds
    cases hg
    obtain ⟨a, us, e, h1, r⟩ := s.tuple (ds := ds) rfl
    exact ⟨a, us, by rw [e], .inr h1, by rw [← r.len]; exact done_leaf (x := .int ds.length) rs (fun _ _ => rfl) k⟩
  · cases hg
def fLenS : O → Option O
  | .d (.str s) => if s.length ≤ sizeLine then some (.d (.int s.length)) else none
  | _ => none
theorem cLenS : CallOk W (on1 fLenS) (fun xs H Q => ∃ z, xs = [.str z] ∧ z.length ≤ sizeLine ∧ Q (.int z.length) H) := by
  intro Z F P e T σ H os z vs Q hf ss rs k
  obtain ⟨o, rfl, hg⟩ := on1_some hf
  clear hf
  obtain ⟨v, rfl, s⟩ := ss.one
  unfold fLenS at hg
  split at hg
  · rename_i x
    split at hg
    · rename_i q; cases hg
      exact ⟨x, by rw [s.str], q, done_leaf (x := .int x.length) rs (fun _ _ => rfl) k⟩
    · cases hg
  · cases hg
def fInt : O → Option O
  | .d (.int i) => some (.d (.int i))
  | .d (.bl b) => some (.d (.int (if b = true then 1 else 0)))
  | _ => none
theorem cInt : CallOk W (on1 fInt) (fun xs H Q => (∃ i, xs = [.int i] ∧ Q (.int i) H) ∨ ∃ k, xs = [.bl k] ∧ Q (.int (if k then 1 else 0)) H) := by
  intro Z F P e T σ H os z vs Q hf ss rs k
  obtain ⟨o, rfl, hg⟩ := on1_some hf
  clear hf
  obtain ⟨v, rfl, s⟩ := ss.one
  unfold fInt at hg
  split at hg
  · rename_i i; cases hg
    exact .inl ⟨i, by rw [s.int], done_leaf (x := .int i) rs (fun _ _ => rfl) k⟩
  · rename_i b; cases hg
    exact .inr ⟨b, by rw [s.bl], done_leaf (x := .int (if b = true then 1 else 0)) rs (fun _ _ => rfl) k⟩
  · cases hg
def fAbs : O → Option O
  | .d (.int i) => some (.d (.int (if i < 0 then -i else i)))
  | _ => none
theorem cAbs : CallOk W (on1 fAbs) (fun xs H Q => ∃ i, xs = [.int i] ∧ Q (.int (if i < 0 then -i else i)) H) := by
  intro Z F P e T σ H os z vs Q hf ss rs k
  obtain ⟨o, rfl, hg⟩ := on1_some hf
  clear hf
  obtain ⟨v, rfl, s⟩ := ss.one
  unfold fAbs at hg
  split at hg
  · rename_i i; cases hg
    exact ⟨i, by rw [s.int], done_leaf (x := .int (if i < 0 then -i else i)) rs (fun _ _ => rfl) k⟩
  · cases hg
def on2 (f : O → O → Option O) : List O → Option O
  | [a, b] => f a b
  | _ => none
theorem on2_some {f : O → O → Option O} {os : List O} {z : O} (h : on2 f os = some z) : ∃ o p, os = [o, p] ∧ f o p = some z := by
  unfold on2 at h
  split at h
  · exact ⟨_, _, rfl, h⟩
  · cases h
def fMin2 : O → O → Option O := onI fun i j => some (.int (if j < i then j else i))
def fMax2 : O → O → Option O := onI fun i j => some (.int (if j > i then j else i))
theorem cMin2 : CallOk W (on2 fMin2) (fun xs H Q => ∃ i j, xs = [.int i, .int j] ∧ Q (.int (if j < i then j else i)) H) := by
  intro Z F P e T σ H os z vs Q hf ss rs k
  obtain ⟨o, p, rfl, hg⟩ := on2_some hf
  clear hf
  obtain ⟨v, u, rfl, s, s'⟩ := ss.two
  obtain ⟨i, j, x, rfl, rfl, hx, rfl⟩ := onI_some hg
  cases hx
  exact ⟨i, j, by rw [s.int, s'.int], done_leaf (x := .int (if j < i then j else i)) rs (fun _ _ => rfl) k⟩
theorem cMax2 : CallOk W (on2 fMax2) (fun xs H Q => ∃ i j, xs = [.int i, .int j] ∧ Q (.int (if j > i then j else i)) H) := by
  intro Z F P e T σ H os z vs Q hf ss rs k
  obtain ⟨o, p, rfl, hg⟩ := on2_some hf
  clear hf
  obtain ⟨v, u, rfl, s, s'⟩ := ss.two
  obtain ⟨i, j, x, rfl, rfl, hx, rfl⟩ := onI_some hg
  cases hx
  exact ⟨i, j, by rw [s.int, s'.int], done_leaf (x := .int (if j > i then j else i)) rs (fun _ _ => rfl) k⟩
/-- list(x), tuple(x) of a list or tuple -/
def fList (o : O) : Option O := o.items.map fun ds => .lst (ds.map .d)
theorem cList : CallOk W (on1 fList) (fun xs H Q => ∃ p ys, xs = [.ref p] ∧ (SqL W.K H p ys ∨ SqT W.K H p ys) ∧ ∀ l, H l = none → Q (.ref l) (upd H l (.lst ys))) := by
  intro Z F P e T σ H os z vs Q hf ss rs k
  obtain ⟨o, rfl, hg⟩ := on1_some hf
  clear hf
  obtain ⟨v, rfl, s⟩ := ss.one
  unfold fList at hg
  cases q : o.items with
  | none => rw [q] at hg; cases hg
  | some ds =>
    rw [q] at hg; cases hg
    obtain ⟨a, us, e, h1, r⟩ := s.seq q
    exact ⟨a, us, by rw [e], h1, fun l hl => k _ _ _ _ (Stp.allocF hl) (rs.newL r hl)⟩
def fTuple (o : O) : Option O := match o with
  | .d (.tup ds) => some (.d (.tup ds))
  | o => o.ls.map fun ds => .d (.tup ds)
theorem cTuple : CallOk W (on1 fTuple) (rTupOf W.K) := by
  intro Z F P e T σ H os z vs Q hf ss rs k
  obtain ⟨o, rfl, hg⟩ := on1_some hf
  clear hf
  obtain ⟨v, rfl, s⟩ := ss.one
  unfold fTuple at hg
  split at hg
  · rename_i ds; cases hg
    obtain ⟨a, us, e, h1, r⟩ := s.tuple (ds := ds) rfl
    exact ⟨a, us, by rw [e], .inr ⟨h1, k _ _ _ _ .refl (rs.push (by rw [← e]; exact s.d))⟩⟩
  · cases q : o.ls with
    | none => rw [q] at hg; cases hg
    | some ds =>
      rw [q] at hg; cases hg
      obtain ⟨a, us, e, h1, r⟩ := s.list q
      exact ⟨a, us, by rw [e], .inl ⟨h1, fun l o hl ho => k _ _ _ _ (Stp.alloc hl) (rs.newT r hl ho)⟩⟩
/-- a list of ints -/
def intsD : List D → Option (List Int)
  | [] => some []
  | .int i :: r => (intsD r).map (i :: ·)
  | _ :: _ => none
theorem intsD_map : ∀ xs : List Int, intsD (xs.map D.int) = some xs
  | [] => rfl
  | x :: xs => by show (intsD (xs.map D.int)).map (x :: ·) = some (x :: xs); rw [intsD_map xs]; rfl
theorem intsD_rds : ∀ {ds : List D} {ns : List Int} {vs : List V}, intsD ds = some ns → RDs W H Z ds vs → vs = ns.map V.int
  | [], ns, vs, h, r => by
    cases h
    exact r
  | .int i :: ds, ns, vs, h, ⟨v, r, ev, h1, h2⟩ => by
    cases q : intsD ds with
    | none => simp [intsD, q] at h
    | some ms =>
      simp only [intsD, q, Option.map_some, Option.some.injEq] at h
      subst h ev
      rw [show v = .int i from h1, intsD_rds q h2]; rfl
  | .non :: _, _, _, h, _ => by cases h
  | .bl _ :: _, _, _, h, _ => by cases h
  | .str _ :: _, _, _, h, _ => by cases h
  | .ty _ :: _, _, _, h, _ => by cases h
  | .cls _ :: _, _, _, h, _ => by cases h
  | .adr _ :: _, _, _, h, _ => by cases h
  | .tup _ :: _, _, _, h, _ => by cases h
  | .lst _ :: _, _, _, h, _ => by cases h
  | .dic _ _ :: _, _, _, h, _ => by cases h
  | .obj _ _ _ :: _, _, _, h, _ => by cases h
def fSum (o : O) : Option O := (o.ls.bind intsD).map fun ns => .d (.int ns.sum)
theorem cSum : CallOk W (on1 fSum) (rSum W.K) := by
  intro Z F P e T σ H os z vs Q hf ss rs k
  obtain ⟨o, rfl, hg⟩ := on1_some hf
  clear hf
  obtain ⟨v, rfl, s⟩ := ss.one
  unfold fSum at hg
  cases q : o.ls with
  | none => rw [q] at hg; cases hg
  | some ds =>
    rw [q] at hg
    simp only [Option.bind_some] at hg
    cases q2 : intsD ds with
    | none => rw [q2] at hg; cases hg
    | some ns =>
      rw [q2] at hg; cases hg
      obtain ⟨a, us, e, h1, r⟩ := s.list q
      rw [intsD_rds q2 r] at h1
      exact ⟨a, ns, by rw [e], h1, done_leaf (x := .int ns.sum) rs (fun _ _ => rfl) k⟩
end
end MX

/-! MX6: statements. -/
namespace MX
open PySem L2
def PostS (W : Wd) (Wo : WX) (Z F : Addr → Prop) (P : Nat → V) (T : Ts) (H : Hp) (D : Ends) : Out → Prop
  | .nx e => ∀ σ' Z' F' H', Stp Z F H Z' F' H' → RS W Z' F' P e T σ' H' → D.nx σ' H'
  | .rt o e => ∀ v σ' Z' F' H', Stp Z F H Z' F' H' → RS W Z' F' P e ((o, v) :: T) σ' H' → D.rt v H'
  | .bk e => ∀ σ' Z' F' H', Stp Z F H Z' F' H' → RS W Z' F' P e T σ' H' → D.bk σ' H'
  | .ct e => ∀ σ' Z' F' H', Stp Z F H Z' F' H' → RS W Z' F' P e T σ' H' → D.ct σ' H'
  | .exc c ps e => ∀ σ', XOk W Wo Z F P T σ' H c ps e
  | .bad => False
def rdS (W : Wd) (Wo : WX) (d : En → Out) : TS := fun D σ H => ∃ Z F P e T, RS W Z F P e T σ H ∧ PostS W Wo Z F P T H D (d e)
def HS (X : Cx) (cl : Cl) (Wo : WX) (st : Stmt) (d : En → Out) : Prop := PS X st (rdS (Cx.wd X cl) Wo d)
def HSs (X : Cx) (cl : Cl) (Wo : WX) (st : List Stmt) (d : En → Out) : Prop := PSs X st (rdS (Cx.wd X cl) Wo d)
theorem PS.imp {X : Cx} {st : Stmt} {t t' : TS} (h : PS X st t) (k : ∀ D σ H, t' D σ H → t D σ H) : PS X st t' := ⟨fun pins s σ H D I q => h.run pins s σ H D I (k D σ H q)⟩
theorem PSs.imp {X : Cx} {st : List Stmt} {t t' : TS} (h : PSs X st t) (k : ∀ D σ H, t' D σ H → t D σ H) : PSs X st t' := ⟨fun pins s σ H D I q => h.run pins s σ H D I (k D σ H q)⟩
theorem PG.imp {X : Cx} {tg : Expr} {t t' : TG} (h : PG X tg t) (k : ∀ v σ H Q, t' v σ H Q → t v σ H Q) : PG X tg t' := ⟨fun pins s σ H v u Q I r q => h.run pins s σ H v u Q I r (k v σ H Q q)⟩
section
variable {X : Cx} {cl : Cl} {Wo : WX} {pos : Pos}
variable {W : Wd} {Z F Z' F' : Addr → Prop} {P : Nat → V} {e : En} {T : Ts} {σ : L2.St} {H H' : Hp} {Q : VK} {DD : Ends}
theorem PostS.step (s : Stp Z F H Z' F' H') {r : Out} (h : PostS W Wo Z F P T H DD r) : PostS W Wo Z' F' P T H' DD r := by
  cases r with
  | nx e => exact fun σ2 Z2 F2 H2 s2 r2 => h σ2 Z2 F2 H2 (s.trans s2) r2
  | rt o e => exact fun v σ2 Z2 F2 H2 s2 r2 => h v σ2 Z2 F2 H2 (s.trans s2) r2
  | bk e => exact fun σ2 Z2 F2 H2 s2 r2 => h σ2 Z2 F2 H2 (s.trans s2) r2
  | ct e => exact fun σ2 Z2 F2 H2 s2 r2 => h σ2 Z2 F2 H2 (s.trans s2) r2
  | exc c ps e => exact fun σ2 => XOk.step s (h σ2)
  | bad => exact h
theorem PostS.imp {D' : Ends} {T' : Ts} {r : Out} (h : PostS W Wo Z F P T H DD r) (hT : ∀ Z F e σ H, RS W Z F P e T' σ H → RS W Z F P e T σ H) (hR : ∀ o v Z F e σ H, RS W Z F P e ((o, v) :: T') σ H → RS W Z F P e ((o, v) :: T) σ H)
    (h1 : ∀ σ H, DD.nx σ H → D'.nx σ H) (h2 : ∀ v H, DD.rt v H → D'.rt v H) (h3 : ∀ σ H, DD.bk σ H → D'.bk σ H) (h4 : ∀ σ H, DD.ct σ H → D'.ct σ H) : PostS W Wo Z F P T' H D' r := by
  cases r with
  | nx e => exact fun σ2 Z2 F2 H2 s2 r2 => h1 _ _ (h σ2 Z2 F2 H2 s2 (hT _ _ _ _ _ r2))
  | rt o e => exact fun v σ2 Z2 F2 H2 s2 r2 => h2 _ _ (h v σ2 Z2 F2 H2 s2 (hR _ _ _ _ _ _ _ r2))
  | bk e => exact fun σ2 Z2 F2 H2 s2 r2 => h3 _ _ (h σ2 Z2 F2 H2 s2 (hT _ _ _ _ _ r2))
  | ct e => exact fun σ2 Z2 F2 H2 s2 r2 => h4 _ _ (h σ2 Z2 F2 H2 s2 (hT _ _ _ _ _ r2))
  | exc c ps e => exact fun σ2 Z2 F2 H2 C dd hc py s2 r2 => h σ2 Z2 F2 H2 C dd hc py s2 (hT _ _ _ _ _ r2)
  | bad => exact h
/-! ### blocks -/
def sNext : En → Out := fun e => .nx e
def Out.andThen (r : Out) (b : En → Out) : Out := match r with
  | .nx e => b e
  | r => r
def sSeq (a b : En → Out) : En → Out := fun e => (a e).andThen b
theorem hss_nil : HSs X cl Wo [] sNext := PSs.imp pss_nil fun D σ H ⟨Z, F, P, e, T, r, k⟩ => k σ Z F H .refl r
theorem hss_one {st : Stmt} {d} (h : HS X cl Wo st d) : HSs X cl Wo [st] d := pss_one h
theorem hss_cons {st : Stmt} {rest : List Stmt} {d d'} (h : HS X cl Wo st d) (h' : HSs X cl Wo rest d') : HSs X cl Wo (st :: rest) (sSeq d d') :=
  PSs.imp (pss_cons h h') fun D σ H ⟨Z, F, P, e, T, r, k⟩ => by
    refine ⟨Z, F, P, e, T, r, ?_⟩
    unfold sSeq at k
    cases q : d e with
    | nx e1 => rw [q] at k; exact fun σ2 Z2 F2 H2 s2 r2 => ⟨Z2, F2, P, e1, T, r2, PostS.step s2 k⟩
    | rt o e1 => rw [q] at k; exact k
    | bk e1 => rw [q] at k; exact k
    | ct e1 => rw [q] at k; exact k
    | exc c ps e1 => rw [q] at k; exact k
    | bad => rw [q] at k; exact k
theorem hs_pass : HS X cl Wo (.Pass pos) sNext := PS.imp ps_pass fun D σ H ⟨Z, F, P, e, T, r, k⟩ => k σ Z F H .refl r
theorem hs_break : HS X cl Wo (.Break pos) (fun e => .bk e) := PS.imp ps_break fun D σ H ⟨Z, F, P, e, T, r, k⟩ => k σ Z F H .refl r
theorem hs_continue : HS X cl Wo (.Continue pos) (fun e => .ct e) := PS.imp ps_continue fun D σ H ⟨Z, F, P, e, T, r, k⟩ => k σ Z F H .refl r
/-- an expression's result handed to a statement's end -/
def Rs.out {α : Type} (r : Rs α) (g : α → En → Out) : Out := match r with
  | .ok x e => g x e
  | .exc c ps e => .exc c ps e
  | .bad => .bad
theorem rdE_out {d : En → Rs O} {g : O → En → Out} {K : VK} (h : rdS W Wo (fun e => (d e).out g) DD σ H)
    (hk : ∀ Z F P e T o v H1, RS W Z F P e ((o, v) :: T) σ H1 → PostS W Wo Z F P T H1 DD (g o e) → K v H1) : rdE W Wo d σ H K := by
  obtain ⟨Z, F, P, e, T, r, k⟩ := h
  refine ⟨Z, F, P, e, T, r, ?_⟩
  cases q : d e with
  | ok o e1 => simp only [q, Rs.out] at k; exact fun v Z1 F1 H1 s1 r1 => hk Z1 F1 P e1 T o v H1 r1 (PostS.step s1 k)
  | exc c ps e1 => simp only [q, Rs.out] at k; exact k σ
  | bad => simp only [q, Rs.out] at k; exact k
theorem rdT_out {d : En → Rs Bool} {g : Bool → En → Out} {K : Bool → Hp → Prop} (h : rdS W Wo (fun e => (d e).out g) DD σ H)
    (hk : ∀ Z F P e T b H1, RS W Z F P e T σ H1 → PostS W Wo Z F P T H1 DD (g b e) → K b H1) : rdT W Wo d σ H K := by
  obtain ⟨Z, F, P, e, T, r, k⟩ := h
  refine ⟨Z, F, P, e, T, r, ?_⟩
  cases q : d e with
  | ok o e1 => simp only [q, Rs.out] at k; exact fun Z1 F1 H1 s1 r1 => hk Z1 F1 P e1 T o H1 r1 (PostS.step s1 k)
  | exc c ps e1 => simp only [q, Rs.out] at k; exact k σ
  | bad => simp only [q, Rs.out] at k; exact k
def sExpr (d : En → Rs O) : En → Out := fun e => (d e).out fun _ e1 => .nx e1
theorem hs_expr {ex : Expr} {d} (h : HE X cl Wo ex d) (hs : swapsWith ex none pos.line X.env = pure false := by rfl) : HS X cl Wo (.Expr ex pos) (sExpr d) :=
  PS.imp (ps_expr h hs) fun D σ H h => rdE_out h fun Z F P e T o v H1 r k => k σ Z F H1 .refl r.pop
def sRet (d : En → Rs O) : En → Out := fun e => (d e).out fun o e1 => .rt o e1
theorem hs_ret {ex : Expr} {d} (h : HE X cl Wo ex d) : HS X cl Wo (.Return (some ex) pos) (sRet d) :=
  PS.imp (ps_ret h) fun D σ H h => rdE_out h fun Z F P e T o v H1 r k => k v σ Z F H1 .refl r
theorem hs_retN : HS X cl Wo (.Return none pos) (fun e => .rt (.d .non) e) :=
  PS.imp ps_retN fun D σ H ⟨Z, F, P, e, T, r, k⟩ => k .non σ Z F H .refl (r.push (x := .non) (v := .non) rfl)
def sIf (c : En → Rs Bool) (a b : En → Out) : En → Out := fun e => (c e).out fun k e1 => if k = true then a e1 else b e1
theorem hs_if {c : Expr} {a b : List Stmt} {dc da db} (hc : HT X cl Wo c dc) (ha : HSs X cl Wo a da) (hb : HSs X cl Wo b db) : HS X cl Wo (.If c a b pos) (sIf dc da db) :=
  PS.imp (ps_if hc ha hb) fun D σ H h => rdT_out h fun Z F P e T k H1 r q => by
    cases k with
    | true => exact iteT ⟨Z, F, P, e, T, r, q⟩
    | false => exact iteF ⟨Z, F, P, e, T, r, q⟩
/-! ### targets -/
abbrev Tg := O → En → Option En
/-- only slots of vs are changed -/
def Kps (vs : List Nat) (σ σ' : L2.St) : Prop := σ'.length = σ.length ∧ ∀ j, j ∉ vs → σ'[j]? = σ[j]?
theorem Kps.refl {vs : List Nat} : Kps vs σ σ := ⟨rfl, fun _ _ => rfl⟩
theorem Kps.trans {vs : List Nat} {σ1 σ2 σ3 : L2.St} (a : Kps vs σ1 σ2) (b : Kps vs σ2 σ3) : Kps vs σ1 σ3 := ⟨b.1.trans a.1, fun j h => (b.2 j h).trans (a.2 j h)⟩
theorem Kps.set {vs : List Nat} {i : Nat} {x : Option V} (h : i ∈ vs) : Kps vs σ (σ.set i x) := ⟨List.length_set, fun j hj => List.getElem?_set_ne fun e => hj (by rw [← e]; exact h)⟩
def rdG (W : Wd) (ss : List Nat) (t : Tg) : TG := fun v σ H Q => ∃ Z F P e T o, RS W Z F P e ((o, v) :: T) σ H ∧ match t o e with
  | some e' => ∀ σ' Z' F' H', Kps ss σ σ' → Stp Z F H Z' F' H' → RS W Z' F' P e' T σ' H' → Q σ' H'
  | none => False
def HG (X : Cx) (cl : Cl) (tg : Expr) (ss : List Nat) (t : Tg) : Prop := PG X tg (rdG (Cx.wd X cl) ss t)
def setS (e : En) (i : Nat) (o : O) : Option En := match e[i]? with
  | some s => if s.pinned = true then none else some (e.set i (.v o))
  | none => none
theorem RS.store {o : O} {v : V} {i : Nat} {e' : En} (r : RS W Z F P e ((o, v) :: T) σ H) (h : setS e i o = some e') : RS W Z F P e' T (σ.set i (some v)) H := by
  unfold setS at h
  cases q : e[i]? with
  | none => rw [q] at h; cases h
  | some s =>
    rw [q] at h
    simp only at h
    split at h
    · cases h
    · rename_i np
      cases h
      obtain ⟨⟨fe, ft, h1, ⟨v', rr, f1, f2, ev, ef, h2, h3⟩, nd, hF⟩, sep, zin, fin, pin, px⟩ := r
      have e0 : v = v' := (List.cons.inj ev).1
      have e2 : T.map (·.2) = rr := (List.cons.inj ev).2
      subst e0 e2
      have hi : i < (e.map Sl.cont).length := by rw [List.length_map]; exact lt_of_get q
      obtain ⟨g1, g2, g3, eg, hr⟩ := h1.set hi h2
      have pp : (fe ++ ft).Perm (g2 ++ ((g1 ++ f1 ++ g3) ++ f2)) := by
        rw [ef, eg]
        simp only [List.append_assoc]
        refine List.Perm.trans ?_ (List.perm_append_comm_assoc _ _ _)
        refine List.Perm.append_left _ (List.Perm.append_left _ ?_)
        exact List.perm_append_comm_assoc _ _ _
      have nd2 := pp.nodup nd
      refine ⟨⟨g1 ++ f1 ++ g3, f2, ?_, h3, nd2.sublist (List.sublist_append_right _ _), fun a ha => hF a (pp.mem_iff.mpr (List.mem_append_right _ ha))⟩, sep, zin, fin, fun j t hj hp => ?_, px⟩
      · rw [map_set_cont]; exact hr
      · by_cases ij : i = j
        · subst ij
          rw [List.getElem?_set_self (lt_of_get q)] at hj
          cases hj; cases hp
        · rw [List.getElem?_set_ne ij] at hj
          rw [List.getElem?_set_ne ij]
          exact pin j t hj hp
def tName (i : Nat) : Tg := fun o e => setS e i o
theorem hg_name {i : Nat} {x : Str} {ss : List Nat} (h : PG X (.Name x pos) (gName i)) (hi : i ∈ ss := by decide) : HG X cl (.Name x pos) ss (tName i) :=
  PG.imp h fun v σ H Q ⟨Z, F, P, e, T, o, r, k⟩ => by
    unfold tName at k
    cases q : setS e i o with
    | none => rw [q] at k; exact k.elim
    | some e' => rw [q] at k; exact k _ Z F H (.set hi) .refl (r.store q)
/-- several targets -/
abbrev Tgs := List D → En → Option En
def rdGs (W : Wd) (ss : List Nat) (t : Tgs) : TGs := fun vs σ H Q => ∃ Z F P e T ds, ds.length = vs.length ∧ RS W Z F P e ((ds.map O.d).zip vs ++ T) σ H ∧ match t ds e with
  | some e' => ∀ σ' Z' F' H', Kps ss σ σ' → Stp Z F H Z' F' H' → RS W Z' F' P e' T σ' H' → Q σ' H'
  | none => False
def HGs (X : Cx) (cl : Cl) (tg : List Expr) (ss : List Nat) (t : Tgs) : Prop := PGs X tg (rdGs (Cx.wd X cl) ss t)
theorem PGs.imp {tg : List Expr} {t t' : TGs} (h : PGs X tg t) (k : ∀ v σ H Q, t' v σ H Q → t v σ H Q) : PGs X tg t' := ⟨fun pins s σ H v u Q I r q => h.run pins s σ H v u Q I r (k v σ H Q q)⟩
def tgNil : Tgs := fun ds e => match ds with
  | [] => some e
  | _ => none
def tgCons (a : Tg) (b : Tgs) : Tgs := fun ds e => match ds with
  | d :: r => (a (.d d) e).bind fun e1 => b r e1
  | [] => none
theorem hgs_nil {ss : List Nat} : HGs X cl [] ss tgNil := PGs.imp pgs_nil fun vs σ H Q ⟨Z, F, P, e, T, ds, hl, r, k⟩ => by
  cases ds with
  | nil => exact ⟨List.length_eq_zero_iff.mp hl.symm, k σ Z F H .refl .refl r⟩
  | cons _ _ => exact k.elim
theorem hgs_cons {a : Expr} {es : List Expr} {ss : List Nat} {t : Tg} {u : Tgs} (h1 : HG X cl a ss t) (h2 : HGs X cl es ss u) (hs : (assignEach (a :: es) X.env).map (·.2) = assign a X.env :: (assignEach es X.env).map (·.2) := by rfl) : HGs X cl (a :: es) ss (tgCons t u) :=
  PGs.imp (pgs_cons h1 h2 hs) fun vs σ H Q ⟨Z, F, P, e, T, ds, hl, r, k⟩ => by
    cases ds with
    | nil => exact k.elim
    | cons d ds =>
      cases vs with
      | nil => cases hl
      | cons v vs =>
        refine ⟨v, vs, rfl, Z, F, P, e, (ds.map O.d).zip vs ++ T, .d d, r, ?_⟩
        unfold tgCons at k
        simp only at k
        cases q : t (.d d) e with
        | none => rw [q] at k; exact k.elim
        | some e1 =>
          rw [q] at k
          simp only [Option.bind_some] at k
          intro σ1 Z1 F1 H1 k1 s1 r1
          refine ⟨Z1, F1, P, e1, T, ds, Nat.succ.inj hl, r1, ?_⟩
          cases q2 : u ds e1 with
          | none => rw [q2] at k; exact k.elim
          | some e2 => rw [q2] at k; exact fun σ2 Z2 F2 H2 k2 s2 r2 => k σ2 Z2 F2 H2 (k1.trans k2) (s1.trans s2) r2
/-- a tuple's (or list's) parts -/
def tTupl (t : Tgs) : Tg := fun o e => match o with
  | .d (.tup ds) => t ds e
  | _ => none
theorem hg_tup {es : List Expr} {k : Nat} {ss : List Nat} {t : Tgs} {n : Nat} (hc : X.calm = true) (h : HGs X cl es ss t) (hn : (assignEach es X.env).length = n := by rfl) (hst : (assignEach es X.env).findIdx? (·.1) = none := by rfl)
    (hlen : ∀ ds e e', t ds e = some e' → ds.length = n) : HG X cl (.Tuple es k pos) ss (tTupl t) :=
  PG.imp (pg_tup hc h hn hst) fun v σ H Q ⟨Z, F, P, e, T, o, r, k⟩ => by
    unfold tTupl at k
    split at k
    · rename_i e' q
      split at q
      · rename_i ds
        obtain ⟨a, vs, ev, hh, rd⟩ := r.topD
        refine ⟨a, vs, ev, hh.sq, by rw [← rd.len]; exact hlen ds e e' q, Z, F, P, e, T, ds, rd.len, ros_leaf rd r.pop, ?_⟩
        rw [q]; exact k
      · cases q
    · exact k.elim
theorem tg_len0 : ∀ ds e e', tgNil ds e = some e' → ds.length = 0
  | [], _, _, _ => rfl
  | _ :: _, _, _, h => by cases h
theorem tg_len {a : Tg} {b : Tgs} {n : Nat} (h : ∀ ds e e', b ds e = some e' → ds.length = n) : ∀ ds e e', tgCons a b ds e = some e' → ds.length = n + 1
  | [], _, _, q => by cases q
  | d :: ds, e, e', q => by
    unfold tgCons at q
    simp only at q
    cases q1 : a (.d d) e with
    | none => rw [q1] at q; cases q
    | some e1 =>
      rw [q1] at q
      rw [List.length_cons, h ds e1 e' q]
/-! ### stores -/
def sAsg (d : En → Rs O) (t : Tg) : En → Out := fun e => (d e).out fun o e1 => match t o e1 with
  | some e2 => .nx e2
  | none => .bad
theorem hs_asg {tg ex : Expr} {d} {ss : List Nat} {t : Tg} (he : HE X cl Wo ex d) (hg : HG X cl tg ss t) (hs : swapsWithSole [tg] ex pos.line X.env = pure false := by rfl) (hw : swappedStores [tg] ex X.env = pure none := by rfl)
    (h1 : (assignEach [tg] X.env).map (·.2) = [assign tg X.env] := by rfl) : HS X cl Wo (.Assign [tg] ex pos) (sAsg d t) :=
  PS.imp (ps_asg he hg hs hw h1) fun D σ H h => rdE_out h fun Z F P e T o v H1 r k => by
    refine ⟨Z, F, P, e, T, o, r, ?_⟩
    split at k
    · exact fun σ' Z' F' H' _ => k σ' Z' F' H'
    · exact k.elim
/-- x = e as ps_set has it (a comprehension on the right, too) -/
theorem hs_set {tg ex : Expr} {d} {i : Nat} (h : PS X (.Assign [tg] ex pos) (tAsg (rdE (Cx.wd X cl) Wo d) (gName i))) : HS X cl Wo (.Assign [tg] ex pos) (sAsg d (tName i)) :=
  PS.imp h fun D σ H h => rdE_out h fun Z F P e T o v H1 r k => by
    split at k
    · rename_i e2 q; exact k _ Z F H1 .refl (r.store q)
    · exact k.elim
/-- a, b = x, y with plain local names -/
def sPar (i j : Nat) (d : En → Rs (List O)) : En → Out := fun e => (d e).out fun os e1 => match os with
  | [a, b] => match setS e1 i a with
    | some e2 => match setS e2 j b with
      | some e3 => .nx e3
      | none => .bad
    | none => .bad
  | _ => .bad
theorem rdA_out {d : En → Rs (List O)} {g : List O → En → Out} {K : List V → Hp → Prop} (h : rdS W Wo (fun e => (d e).out g) DD σ H)
    (hk : ∀ Z F P e T os vs H1, os.length = vs.length → RS W Z F P e (os.zip vs ++ T) σ H1 → PostS W Wo Z F P T H1 DD (g os e) → K vs H1) : rdA W Wo d σ H K := by
  obtain ⟨Z, F, P, e, T, r, k⟩ := h
  refine ⟨Z, F, P, e, T, r, ?_⟩
  cases q : d e with
  | ok os e1 => simp only [q, Rs.out] at k; exact fun vs Z1 F1 H1 hl s1 r1 => hk Z1 F1 P e1 T os vs H1 hl r1 (PostS.step s1 k)
  | exc c ps e1 => simp only [q, Rs.out] at k; exact k σ
  | bad => simp only [q, Rs.out] at k; exact k
theorem hs_par {i j : Nat} {st : Stmt} {d} (h : PS X st (tPar i j (rdA (Cx.wd X cl) Wo d))) : HS X cl Wo st (sPar i j d) :=
  PS.imp h fun D σ H h => rdA_out h fun Z F P e T os vs H1 hl r k => by
    match os, vs, hl with
    | [a, b], [v, w], _ =>
      refine ⟨v, w, rfl, ?_⟩
      simp only at k
      cases q1 : setS e i a with
      | none => rw [q1] at k; exact k.elim
      | some e2 =>
        rw [q1] at k
        simp only at k
        cases q2 : setS e2 j b with
        | none => rw [q2] at k; exact k.elim
        | some e3 =>
          rw [q2] at k
          exact k _ Z F H1 .refl (RS.store (RS.store r q1) q2)
    | [], _, _ => exact k.elim
    | [_], _, _ => exact k.elim
    | _ :: _ :: _ :: _, _, _ => exact k.elim
/-- x += e -/
def sAug (i : Nat) (f : O → O → Option O) (d : En → Rs Ar) : En → Out := fun e => match slot e i with
  | some _ => (d e).out fun y e1 => match slot e1 i, y.get e1 with
    | some a, some b => match f a b with
      | some z => match setS e1 i z with
        | some e2 => .nx e2
        | none => .bad
      | none => .bad
    | _, _ => .bad
  | none => .bad
theorem hs_aug {i : Nat} {st : Stmt} {d} {r} {f : O → O → Option O} (hf : BinOk (Cx.wd X cl) f r) (h : PS X st (tAug i (rdV (Cx.wd X cl) Wo d) r)) : HS X cl Wo st (sAug i f d) :=
  PS.imp h fun D σ H ⟨Z, F, P, e, T, r0, k⟩ => by
    unfold sAug at k
    cases q : slot e i with
    | none => rw [q] at k; exact k.elim
    | some o =>
      rw [q] at k
      simp only at k
      obtain ⟨x, fx, hx, _⟩ := slot_get r0 q
      refine ⟨x, hx, Z, F, P, e, T, r0, ?_⟩
      cases qd : d e with
      | bad => rw [qd] at k; exact k.elim
      | exc c ps e1 => rw [qd] at k; exact k σ
      | ok y e1 =>
        rw [qd] at k
        simp only [Rs.out] at k
        intro u Z1 F1 H1 s1 r1 a1
        cases q1 : slot e1 i with
        | none => rw [q1] at k; exact k.elim
        | some a =>
          cases q2 : y.get e1 with
          | none => rw [q1, q2] at k; exact k.elim
          | some b =>
            rw [q1, q2] at k
            simp only at k
            obtain ⟨sb, r2⟩ := see_tmp r1 a1 q2
            obtain ⟨x', fx', hx', rx', _⟩ := slot_get r2 q1
            rw [hx] at hx'
            cases hx'
            cases q3 : f a b with
            | none => rw [q3] at k; exact k.elim
            | some z =>
              rw [q3] at k
              simp only at k
              cases q4 : setS e1 i z with
              | none => rw [q4] at k; exact k.elim
              | some e2 =>
                rw [q4] at k
                exact hf Z1 F1 P e1 T σ H1 a b z x u _ q3 ⟨fx', rx'⟩ sb r2 fun w Z2 F2 H2 s2 r3 => k _ Z2 F2 H2 (s1.trans s2) (r3.store q4)
/-! ### while -/
def sWhile (c : En → Rs Bool) (b : En → Out) : Nat → En → Out
  | 0, _ => .bad
  | n + 1, e => (c e).out fun k e1 => if k = true then match b e1 with
      | .nx e2 => sWhile c b n e2
      | .ct e2 => sWhile c b n e2
      | .bk e2 => .nx e2
      | r => r
    else .nx e1
def sWhileF (fu : En → Nat) (c : En → Rs Bool) (b : En → Out) : En → Out := fun e => sWhile c b (fu e) e
theorem hs_while {c : Expr} {body : List Stmt} {dc db} (fu : En → Nat) (hp : PassesOwn (model X.prog X.w) X.A X.env X.xe) (hc : HT X cl Wo c dc) (hb : HSs X cl Wo body db) : HS X cl Wo (.While c body [] pos) (sWhileF fu dc db) :=
  PS.imp (ps_while hp hc hb) fun D σ H ⟨Z, F, P, e, T, r0, k⟩ => by
    refine ⟨fun m σ H => ∃ Z F e, RS (Cx.wd X cl) Z F P e T σ H ∧ PostS (Cx.wd X cl) Wo Z F P T H D (sWhile dc db m e), ⟨fu e, Z, F, e, r0, k⟩, ?_⟩
    rintro m σ H ⟨Z, F, e, r, k⟩
    cases m with
    | zero => exact k.elim
    | succ m =>
      unfold sWhile at k
      refine ⟨Z, F, P, e, T, r, ?_⟩
      cases q : dc e with
      | bad => rw [q] at k; exact k
      | exc c ps e1 => rw [q] at k; exact k σ
      | ok b e1 =>
        rw [q] at k
        simp only [Rs.out] at k
        intro Z1 F1 H1 s1 r1
        cases b with
        | false => refine iteF ?_; exact k σ Z1 F1 H1 s1 r1
        | true =>
          refine iteT ⟨fun σ' H' => ∃ Z F e, RS (Cx.wd X cl) Z F P e T σ' H' ∧ PostS (Cx.wd X cl) Wo Z F P T H' D (sWhile dc db m e), fun σ' H' h => ⟨m, Nat.lt_succ_self m, h⟩, Z1, F1, P, e1, T, r1, ?_⟩
          simp only [if_true] at k
          cases qb : db e1 with
          | nx e2 => rw [qb] at k; exact fun σ2 Z2 F2 H2 s2 r2 => ⟨Z2, F2, e2, r2, PostS.step (s1.trans s2) k⟩
          | ct e2 => rw [qb] at k; exact fun σ2 Z2 F2 H2 s2 r2 => ⟨Z2, F2, e2, r2, PostS.step (s1.trans s2) k⟩
          | bk e2 => rw [qb] at k; exact fun σ2 Z2 F2 H2 s2 r2 => k σ2 Z2 F2 H2 (s1.trans s2) r2
          | rt o e2 => rw [qb] at k; exact fun v σ2 Z2 F2 H2 s2 r2 => k v σ2 Z2 F2 H2 (s1.trans s2) r2
          | exc c ps e2 => rw [qb] at k; exact fun σ2 => XOk.step s1 (k σ2)
          | bad => rw [qb] at k; exact k
/-! ### for -/
/-- what the iterator J does while T2 is held: it yields ds -/
def ItOk (W : Wd) (J : It) (T2 : Ts) (ds : List D) : Prop :=
  ∀ (i : Nat) (Z F : Addr → Prop) (P : Nat → V) (e : En) (T : Ts) (σ : L2.St) (H : Hp), RS W Z F P e (T2 ++ T) σ H →
    (∀ d, ds[i]? = some d → J.go i H ∧ ∀ x H', J.yld i H x H' → ∃ Z' F', Stp Z F H Z' F' H' ∧ RS W Z' F' P e ((.d d, x) :: (T2 ++ T)) σ H') ∧ (i = ds.length → J.stop i H)
def rdI (W : Wd) (Wo : WX) (d : En → Rs (List D)) : TI := fun σ H R => ∃ Z F P e T, RS W Z F P e T σ H ∧ match d e with
  | .ok ds e' => ∀ Z' F' H' J T2, Stp Z F H Z' F' H' → RS W Z' F' P e' (T2 ++ T) σ H' → ItOk W J T2 ds → R J H'
  | .exc c ps e' => XOk W Wo Z F P T σ H c ps e'
  | .bad => False
def HI (X : Cx) (cl : Cl) (Wo : WX) (tg it : Expr) (d : En → Rs (List D)) : Prop := PI X tg it (rdI (Cx.wd X cl) Wo d)
theorem PI.imp {tg it : Expr} {t t' : TI} (h : PI X tg it t) (k : ∀ σ H R, t' σ H R → t σ H R) : PI X tg it t' := ⟨fun pins s σ H R I q => h.run pins s σ H R I (k σ H R q)⟩
def sForL (t : Tg) (b : En → Out) : List D → En → Out
  | [], e => .nx e
  | d :: ds, e => match t (.d d) e with
    | none => .bad
    | some e1 => match b e1 with
      | .nx e2 => sForL t b ds e2
      | .ct e2 => sForL t b ds e2
      | .bk e2 => .nx e2
      | r => r
def sFor (it : En → Rs (List D)) (t : Tg) (b : En → Out) : En → Out := fun e => (it e).out fun ds e1 => sForL t b ds e1
theorem hs_for {tg it : Expr} {body : List Stmt} {di} {ss : List Nat} {t : Tg} {db} (hp : PassesOwn (model X.prog X.w) X.A X.env X.xe) (hc : X.calm = true) (hi : HI X cl Wo tg it di) (hg : HG X cl tg ss t) (hb : HSs X cl Wo body db)
    (hs : ∀ x, foldedSetIterable it X.env x = pure x := by intro _; rfl) : HS X cl Wo (.For tg it body [] pos) (sFor di t db) :=
  PS.imp (ps_for hp hc hi hg hb hs) fun D σ H ⟨Z, F, P, e, T, r0, k⟩ => by
    refine ⟨Z, F, P, e, T, r0, ?_⟩
    unfold sFor at k
    cases q : di e with
    | bad => rw [q] at k; exact k
    | exc c ps e1 => rw [q] at k; exact k σ
    | ok ds e1 =>
      rw [q] at k
      simp only [Rs.out] at k
      intro Z1 F1 H1 J T2 s1 r1 hJ
      refine ⟨fun i m σ H => i + m = ds.length ∧ ∃ Z F e, RS (Cx.wd X cl) Z F P e (T2 ++ T) σ H ∧ PostS (Cx.wd X cl) Wo Z F P T H D (sForL t db (ds.drop i) e), ⟨ds.length, Nat.zero_add _, Z1, F1, e1, r1, PostS.step s1 k⟩, ?_⟩
      rintro i m σ H ⟨him, Z, F, e, r, k⟩
      obtain ⟨hgo, hstop⟩ := hJ i Z F P e T σ H r
      by_cases hi : i < ds.length
      · right
        have hd : ds[i]? = some ds[i] := List.getElem?_eq_getElem hi
        rw [List.drop_eq_getElem_cons hi] at k
        unfold sForL at k
        refine ⟨(hgo _ hd).1, fun σ' H' => i + 1 + (m - 1) = ds.length ∧ ∃ Z F e, RS (Cx.wd X cl) Z F P e (T2 ++ T) σ' H' ∧ PostS (Cx.wd X cl) Wo Z F P T H' D (sForL t db (ds.drop (i + 1)) e), fun σ' H' h => ⟨m - 1, by omega, h⟩, fun x H' hy => ?_⟩
        obtain ⟨Z2, F2, s2, r2⟩ := (hgo _ hd).2 x H' hy
        refine ⟨Z2, F2, P, e, T2 ++ T, .d ds[i], r2, ?_⟩
        cases q1 : t (.d ds[i]) e with
        | none => rw [q1] at k; exact k
        | some e2 =>
          rw [q1] at k
          simp only at k ⊢
          intro σ3 Z3 F3 H3 _ s3 r3
          refine ⟨Z3, F3, P, e2, T2 ++ T, r3, ?_⟩
          cases qb : db e2 with
          | nx e3 => rw [qb] at k; exact fun σ4 Z4 F4 H4 s4 r4 => ⟨by omega, Z4, F4, e3, r4, PostS.step ((s2.trans s3).trans s4) k⟩
          | ct e3 => rw [qb] at k; exact fun σ4 Z4 F4 H4 s4 r4 => ⟨by omega, Z4, F4, e3, r4, PostS.step ((s2.trans s3).trans s4) k⟩
          | bk e3 => rw [qb] at k; exact fun σ4 Z4 F4 H4 s4 r4 => k σ4 Z4 F4 H4 ((s2.trans s3).trans s4) r4.appPop
          | rt o e3 => rw [qb] at k; exact fun v σ4 Z4 F4 H4 s4 r4 => k v σ4 Z4 F4 H4 ((s2.trans s3).trans s4) ((r4.perm (T' := T2 ++ ((o, v) :: T)) List.perm_middle.symm).appPop)
          | exc c ps e3 => rw [qb] at k; exact fun σ4 => XOk.pops (XOk.step (s2.trans s3) (k σ4))
          | bad => rw [qb] at k; exact k
      · left
        have hge : ds.length ≤ i := Nat.le_of_not_lt hi
        rw [List.drop_of_length_le hge] at k
        exact ⟨hstop (by omega), k σ Z F H .refl r.appPop⟩
/-- over a list or tuple (a value made; what it owns is known from then on) -/
def iSeq (d : En → Rs O) : En → Rs (List D) := fun e => (d e).bind fun o e1 => match o with
  | .lst os => .ok (fzs os) e1
  | .d (.lst ds) => .ok ds e1
  | _ => .bad
def iTupl (d : En → Rs O) : En → Rs (List D) := fun e => (d e).bind fun o e1 => match o with
  | .d (.tup ds) => .ok ds e1
  | _ => .bad
theorem itl_ok {a : Addr} {v : V} {ds : List D} (hv : v = .ref a) : ItOk W (Itl W.K a) [(.d (.lst ds), v)] ds := by
  intro i Z F P e T σ H r
  have r' : RS W Z F P e ((.d (.lst ds), v) :: T) σ H := r
  obtain ⟨a', vs, ev, hh, rd⟩ := r'.topD
  rw [hv] at ev
  cases ev
  have hq : SqL W.K H a vs := .inl hh.2
  refine ⟨fun d hd => ?_, fun hle => ⟨vs, hq, by rw [← rd.len]; exact Nat.le_of_eq hle.symm⟩⟩
  obtain ⟨w, hw, rw'⟩ := rd.get hd
  exact ⟨⟨vs, w, hq, hw⟩, fun x H' ⟨eH, hx⟩ => by
    subst eH
    have := hx vs hq
    rw [hw] at this
    cases this
    exact ⟨Z, F, .refl, r.push rw'⟩⟩
theorem itt_ok {a : Addr} {v : V} {ds : List D} (hv : v = .ref a) : ItOk W (Itt W.K a) [(.d (.tup ds), v)] ds := by
  intro i Z F P e T σ H r
  have r' : RS W Z F P e ((.d (.tup ds), v) :: T) σ H := r
  obtain ⟨a', vs, ev, hh, rd⟩ := r'.topD
  rw [hv] at ev
  cases ev
  have hq : SqT W.K H a vs := hh.sq
  refine ⟨fun d hd => ?_, fun hle => ⟨vs, hq, by rw [← rd.len]; exact Nat.le_of_eq hle.symm⟩⟩
  obtain ⟨w, hw, rw'⟩ := rd.get hd
  exact ⟨⟨vs, w, hq, hw⟩, fun x H' ⟨eH, hx⟩ => by
    subst eH
    have := hx vs hq
    rw [hw] at this
    cases this
    exact ⟨Z, F, .refl, r.push rw'⟩⟩
theorem hi_list {tg it : Expr} {d} (h : HE X cl Wo it d) : HI X cl Wo tg it (iSeq d) :=
  PI.imp (pi_list h) fun σ H R ⟨Z, F, P, e, T, r0, k⟩ => by
    refine ⟨Z, F, P, e, T, r0, ?_⟩
    unfold iSeq at k
    cases q : d e with
    | bad => rw [q] at k; exact k
    | exc c ps e1 => rw [q] at k; exact k
    | ok o e1 =>
      rw [q] at k
      simp only [Rs.bind_ok] at k
      intro v Z1 F1 H1 s1 r1
      cases o with
      | lst os =>
        obtain ⟨Z2, F2, s2, r2⟩ := r1.freeze
        obtain ⟨a, vs, ev, hh, rd⟩ := r2.topD
        exact ⟨a, ev, ⟨vs, .inl hh.2⟩, k Z2 F2 H1 _ [(.d (.lst (fzs os)), v)] (s1.trans s2) r2 (itl_ok ev)⟩
      | d x =>
        cases x with
        | lst ds =>
          obtain ⟨a, vs, ev, hh, rd⟩ := r1.topD
          exact ⟨a, ev, ⟨vs, .inl hh.2⟩, k Z1 F1 H1 _ [(.d (.lst ds), v)] s1 r1 (itl_ok ev)⟩
        | _ => exact k.elim
      | _ => exact k.elim
theorem hi_tup {tg it : Expr} {d} (h : HE X cl Wo it d) : HI X cl Wo tg it (iTupl d) :=
  PI.imp (pi_tup h) fun σ H R ⟨Z, F, P, e, T, r0, k⟩ => by
    refine ⟨Z, F, P, e, T, r0, ?_⟩
    unfold iTupl at k
    cases q : d e with
    | bad => rw [q] at k; exact k
    | exc c ps e1 => rw [q] at k; exact k
    | ok o e1 =>
      rw [q] at k
      simp only [Rs.bind_ok] at k
      intro v Z1 F1 H1 s1 r1
      cases o with
      | d x =>
        cases x with
        | tup ds =>
          obtain ⟨a, vs, ev, hh, rd⟩ := r1.topD
          exact ⟨a, ev, ⟨vs, hh.sq⟩, k Z1 F1 H1 _ [(.d (.tup ds), v)] s1 r1 (itt_ok ev)⟩
        | _ => exact k.elim
      | _ => exact k.elim
end
end MX

/-! MX7: calls of own defs; a def by its body. -/
namespace MX
open PySem L2
/-- an argument: its value, and the slot that it was lent from -/
abbrev Ag := O × Option Nat
def tmC (as : List Ag) (vs : List V) : Ts := (as.map (·.1)).zip vs
def lends (σ : L2.St) : List Ag → List V → Prop
  | (_, some i) :: as, v :: vs => σ[i]? = some (some v) ∧ lends σ as vs
  | (_, none) :: as, _ :: vs => lends σ as vs
  | _, _ => True
def PostC (W : Wd) (Wo : WX) (Z F : Addr → Prop) (P : Nat → V) (T : Ts) (σ : L2.St) (H : Hp) (Q : List V → Hp → Prop) : Rs (List Ag) → Prop
  | .ok as e => ∀ vs Z' F' H', as.length = vs.length → Stp Z F H Z' F' H' → RS W Z' F' P e (tmC as vs ++ T) σ H' → lends σ as vs → Q vs H'
  | .exc c ps e => XOk W Wo Z F P T σ H c ps e
  | .bad => False
def rdC (W : Wd) (Wo : WX) (d : En → Rs (List Ag)) : TA := fun σ H Q => ∃ Z F P e T, RS W Z F P e T σ H ∧ PostC W Wo Z F P T σ H Q (d e)
def LenIs {α : Type} (n : Nat) (d : En → Rs (List α)) : Prop := ∀ e as e', d e = .ok as e' → as.length = n
structure HC (X : Cx) (cl : Cl) (Wo : WX) (es : List Expr) (n : Nat) (d : En → Rs (List Ag)) : Prop where
  run : PA X es (rdC (Cx.wd X cl) Wo d)
  len : LenIs n d
structure HCK (X : Cx) (cl : Cl) (Wo : WX) (kws : List Keyword) (n : Nat) (d : En → Rs (List Ag)) : Prop where
  run : PK X kws (rdC (Cx.wd X cl) Wo d)
  len : LenIs n d
def lentS (e : En) (i : Nat) : En := modS Sl.lent e i
/-- an argument that is a slot: what it owns is lent -/
def gName (i : Nat) : En → Rs Ag := fun e => match slot e i with
  | some (.d x) => .ok (.d x, none) e
  | some o => .ok (o, some i) (lentS e i)
  | none => .bad
/-- an argument that is made -/
def gVal (d : En → Rs O) : En → Rs Ag := fun e => (d e).bind fun o e1 => .ok (o, none) e1
def cNil : En → Rs (List Ag) := fun e => .ok [] e
def cCons (g : En → Rs Ag) (r : En → Rs (List Ag)) : En → Rs (List Ag) := fun e => (g e).bind fun a e1 => (r e1).bind fun as e2 => .ok (a :: as) e2
section
variable {X : Cx} {cl : Cl} {Wo : WX} {pos : Pos}
variable {W : Wd} {Z F Z' F' : Addr → Prop} {P P' : Nat → V} {e : En} {T : Ts} {σ : L2.St} {H H' : Hp} {Q : VK}
theorem PA.cons' {a : Expr} {es : List Expr} {ta : TE} {t : TA} (h : PA X (a :: es) (tCons ta t)) : PA X (a :: es) (tCons ta t) := h
def PostG (W : Wd) (Wo : WX) (Z F : Addr → Prop) (P : Nat → V) (T : Ts) (σ : L2.St) (H : Hp) (Q : VK) : Rs Ag → Prop
  | .ok a e => ∀ v Z' F' H', Stp Z F H Z' F' H' → RS W Z' F' P e ((a.1, v) :: T) σ H' → lends σ [a] [v] → Q v H'
  | .exc c ps e => XOk W Wo Z F P T σ H c ps e
  | .bad => False
def rdGa (W : Wd) (Wo : WX) (d : En → Rs Ag) : TE := fun σ H Q => ∃ Z F P e T, RS W Z F P e T σ H ∧ PostG W Wo Z F P T σ H Q (d e)
def HGa (X : Cx) (cl : Cl) (Wo : WX) (ex : Expr) (g : En → Rs Ag) : Prop := PE X ex (rdGa (Cx.wd X cl) Wo g)
theorem ga_name {i : Nat} {x : Str} (h : PE X (.Name x pos) (tVar i)) : HGa X cl Wo (.Name x pos) (gName i) :=
  PE.imp h fun σ H Q ⟨Z, F, P, e, T, r, k⟩ => by
    unfold gName at k
    cases q : slot e i with
    | none => rw [q] at k; exact k.elim
    | some o =>
      rw [q] at k
      obtain ⟨s, hs, hc⟩ := slot_some q
      have lend : ∃ v, σ[i]? = some (some v) ∧ RS (Cx.wd X cl) Z F P (lentS e i) ((o, v) :: T) σ H := by
        obtain ⟨v, hv, r1⟩ := r.lend hs hc
        exact ⟨v, hv, by unfold lentS; rw [modS_eq hs]; exact r1⟩
      cases o with
      | d x =>
        obtain ⟨v, f, hv, hr, _⟩ := slot_get r q
        exact ⟨v, hv, k v Z F H .refl (r.push hr.1) trivial⟩
      | _ =>
        obtain ⟨v, hv, r1⟩ := lend
        exact ⟨v, hv, k v Z F H .refl r1 ⟨hv, trivial⟩⟩
theorem ga_val {ex : Expr} {d} (h : HE X cl Wo ex d) : HGa X cl Wo ex (gVal d) :=
  PE.imp h fun σ H Q ⟨Z, F, P, e, T, r, k⟩ => by
    refine ⟨Z, F, P, e, T, r, ?_⟩
    unfold gVal at k
    cases q : d e with
    | bad => rw [q] at k; exact k
    | exc c ps e1 => rw [q] at k; exact k
    | ok o e1 => rw [q] at k; exact fun v Z1 F1 H1 s1 r1 => k v Z1 F1 H1 s1 r1 trivial
theorem lends_cons {a : Ag} {as : List Ag} {v : V} {vs : List V} (h : lends σ [a] [v]) (h' : lends σ as vs) : lends σ (a :: as) (v :: vs) := by
  obtain ⟨o, i⟩ := a
  cases i with
  | none => exact h'
  | some i => exact ⟨h.1, h'⟩
theorem rdC_nil {Q : List V → Hp → Prop} (h : rdC W Wo cNil σ H Q) : Q [] H := by
  obtain ⟨Z, F, P, e, T, r, k⟩ := h
  exact k [] Z F H rfl .refl r trivial
theorem rdC_cons {g : En → Rs Ag} {r : En → Rs (List Ag)} {Q : List V → Hp → Prop} (h : rdC W Wo (cCons g r) σ H Q) : rdGa W Wo g σ H fun x H1 => rdC W Wo r σ H1 fun xs H2 => Q (x :: xs) H2 := by
  obtain ⟨Z, F, P, e, T, r0, k⟩ := h
  refine ⟨Z, F, P, e, T, r0, ?_⟩
  unfold cCons at k
  cases qa : g e with
  | bad => rw [qa] at k; exact k
  | exc c ps e1 => rw [qa] at k; exact k
  | ok a e1 =>
    rw [qa] at k
    simp only [Rs.bind_ok] at k
    intro v Z1 F1 H1 s1 r1 l1
    refine ⟨Z1, F1, P, e1, (a.1, v) :: T, r1, ?_⟩
    cases qb : r e1 with
    | bad => rw [qb] at k; exact k
    | exc c ps e' => rw [qb] at k; exact XOk.popped (XOk.step s1 k)
    | ok as e2 =>
      rw [qb] at k
      simp only [Rs.bind_ok] at k
      intro vs Z2 F2 H2 hl s2 r2 l2
      exact k (v :: vs) Z2 F2 H2 (by rw [List.length_cons, List.length_cons, hl]) (s1.trans s2) (r2.perm List.perm_middle) (lends_cons l1 l2)
theorem len_nil : LenIs 0 cNil := fun e as e' h => by cases h; rfl
theorem len_cons {g : En → Rs Ag} {r : En → Rs (List Ag)} {n : Nat} (h : LenIs n r) : LenIs (n + 1) (cCons g r) := fun e as e' q => by
  unfold cCons at q
  cases qa : g e with
  | bad => rw [qa] at q; cases q
  | exc c ps e1 => rw [qa] at q; cases q
  | ok a e1 =>
    rw [qa] at q
    simp only [Rs.bind_ok] at q
    cases qb : r e1 with
    | bad => rw [qb] at q; cases q
    | exc c ps e1 => rw [qb] at q; cases q
    | ok bs e2 =>
      rw [qb] at q
      cases q
      rw [List.length_cons, h e1 bs _ qb]
theorem hc_nil : HC X cl Wo [] 0 cNil := ⟨PA.imp pa_nil fun σ H Q h => rdC_nil h, len_nil⟩
theorem hc_cons {a : Expr} {es : List Expr} {n : Nat} {g r} (ha : HGa X cl Wo a g) (hr : HC X cl Wo es n r) (hs : starEach (a :: es) X.env = (false, eval a X.env) :: starEach es X.env := by rfl) : HC X cl Wo (a :: es) (n + 1) (cCons g r) :=
  ⟨PA.imp (pa_cons ha hr.run hs) fun σ H Q h => rdC_cons h, len_cons hr.len⟩
theorem PK.imp {kws : List Keyword} {t t' : TA} (h : PK X kws t) (k : ∀ σ H Q, t' σ H Q → t σ H Q) : PK X kws t' := ⟨fun pos pins s σ H Q I q => h.run pos pins s σ H Q I (k σ H Q q)⟩
theorem hck_nil : HCK X cl Wo [] 0 cNil := ⟨PK.imp pk_nil fun σ H Q h => rdC_nil h, len_nil⟩
theorem hck_cons {a : Expr} {kws : List Keyword} {nm : Option Str} {kpos : Pos} {n : Nat} {g r} (ha : HGa X cl Wo a g) (hr : HCK X cl Wo kws n r) : HCK X cl Wo (⟨nm, a, kpos⟩ :: kws) (n + 1) (cCons g r) :=
  ⟨PK.imp (pk_cons ha hr.run) fun σ H Q h => rdC_cons h, len_cons hr.len⟩
/-- positional, then keywords -/
def cApp (a b : En → Rs (List Ag)) : En → Rs (List Ag) := fun e => (a e).bind fun as e1 => (b e1).bind fun bs e2 => .ok (as ++ bs) e2
theorem lends_app : ∀ {as bs : List Ag} {vs us : List V}, as.length = vs.length → lends σ as vs → lends σ bs us → lends σ (as ++ bs) (vs ++ us)
  | [], bs, [], us, _, _, h => h
  | [], _, _ :: _, _, hl, _, _ => by cases hl
  | _ :: _, _, [], _, hl, _, _ => by cases hl
  | (o, none) :: as, bs, v :: vs, us, hl, h, h' => lends_app (as := as) (Nat.succ.inj hl) h h'
  | (o, some i) :: as, bs, v :: vs, us, hl, h, h' => ⟨h.1, lends_app (as := as) (Nat.succ.inj hl) h.2 h'⟩
theorem tmC_app {as bs : List Ag} {vs us : List V} (h : as.length = vs.length) : tmC (as ++ bs) (vs ++ us) = tmC as vs ++ tmC bs us := by
  unfold tmC
  rw [List.map_append, List.zip_append (by rw [List.length_map, h])]
theorem rdC_app {a b : En → Rs (List Ag)} {Q : List V → Hp → Prop} (h : rdC W Wo (cApp a b) σ H Q) : rdC W Wo a σ H fun vs H1 => rdC W Wo b σ H1 fun us H2 => Q (vs ++ us) H2 := by
  obtain ⟨Z, F, P, e, T, r0, k⟩ := h
  refine ⟨Z, F, P, e, T, r0, ?_⟩
  unfold cApp at k
  cases qa : a e with
  | bad => rw [qa] at k; exact k
  | exc c ps e1 => rw [qa] at k; exact k
  | ok as e1 =>
    rw [qa] at k
    simp only [Rs.bind_ok] at k
    intro vs Z1 F1 H1 hl1 s1 r1 l1
    refine ⟨Z1, F1, P, e1, tmC as vs ++ T, r1, ?_⟩
    cases qb : b e1 with
    | bad => rw [qb] at k; exact k
    | exc c ps e' => rw [qb] at k; exact XOk.pops (XOk.step s1 k)
    | ok bs e2 =>
      rw [qb] at k
      simp only [Rs.bind_ok] at k
      intro us Z2 F2 H2 hl s2 r2 l2
      refine k (vs ++ us) Z2 F2 H2 (by rw [List.length_append, List.length_append, hl1, hl]) (s1.trans s2) (r2.perm ?_) (lends_app hl1 l1 l2)
      rw [tmC_app hl1, ← List.append_assoc]
      exact List.Perm.append_right _ List.perm_append_comm
theorem len_app {a b : En → Rs (List Ag)} {n m : Nat} (h : LenIs n a) (h' : LenIs m b) : LenIs (n + m) (cApp a b) := fun e as e' q => by
  unfold cApp at q
  cases qa : a e with
  | bad => rw [qa] at q; cases q
  | exc c ps e1 => rw [qa] at q; cases q
  | ok xs e1 =>
    rw [qa] at q
    simp only [Rs.bind_ok] at q
    cases qb : b e1 with
    | bad => rw [qb] at q; cases q
    | exc c ps e1 => rw [qb] at q; cases q
    | ok bs e2 =>
      rw [qb] at q
      cases q
      rw [List.length_append, h e xs e1 qa, h' e1 bs _ qb]
/-! ### the parameters' order -/
def ord {α : Type} (p : List Nat) (l : List α) : List α := p.filterMap fun i => l[i]?
theorem ord_range {α : Type} (l : List α) : ord (List.range l.length) l = l := by
  unfold ord
  induction l with
  | nil => rfl
  | cons x l ih =>
    rw [List.length_cons, List.range_succ_eq_map, List.filterMap_cons]
    simp only [List.getElem?_cons_zero, List.filterMap_map]
    congr 1
theorem ord_perm {α : Type} {p : List Nat} {l : List α} (h : p.Perm (List.range l.length)) : (ord p l).Perm l := by
  have := h.filterMap (fun i => l[i]?)
  rw [show (List.range l.length).filterMap (fun i => l[i]?) = l from ord_range l] at this
  exact this
theorem ord_map {α β : Type} (f : α → β) (p : List Nat) (l : List α) : ord p (l.map f) = (ord p l).map f := by
  unfold ord
  rw [List.map_filterMap]
  congr 1
  funext i
  rw [List.getElem?_map]
theorem ord_len {α β : Type} {p : List Nat} {l : List α} {k : List β} (h : l.length = k.length) : (ord p l).length = (ord p k).length := by
  unfold ord
  induction p with
  | nil => rfl
  | cons i p ih =>
    rw [List.filterMap_cons, List.filterMap_cons]
    rcases Nat.lt_or_ge i l.length with q | q
    · rw [List.getElem?_eq_getElem q, List.getElem?_eq_getElem (by omega)]
      simp only [List.length_cons, ih]
    · rw [List.getElem?_eq_none q, List.getElem?_eq_none (by omega)]
      exact ih
theorem ord_zip {α β : Type} {p : List Nat} : ∀ {l : List α} {k : List β}, l.length = k.length → ord p (l.zip k) = (ord p l).zip (ord p k) := by
  intro l k h
  unfold ord
  induction p with
  | nil => rfl
  | cons i p ih =>
    rw [List.filterMap_cons, List.filterMap_cons, List.filterMap_cons]
    rcases Nat.lt_or_ge i l.length with q | q
    · have q2 : i < k.length := by omega
      have q3 : i < (l.zip k).length := by rw [List.length_zip]; omega
      rw [List.getElem?_eq_getElem q, List.getElem?_eq_getElem q2, List.getElem?_eq_getElem q3]
      simp only [List.getElem_zip, List.zip_cons_cons, ih]
    · have q2 : k.length ≤ i := by omega
      have q3 : (l.zip k).length ≤ i := by rw [List.length_zip]; omega
      rw [List.getElem?_eq_none q, List.getElem?_eq_none q2, List.getElem?_eq_none q3]
      exact ih
theorem lends_get : ∀ {as : List Ag} {vs : List V}, as.length = vs.length → (lends σ as vs ↔ ∀ (j : Nat) o i v, as[j]? = some (o, some i) → vs[j]? = some v → σ[i]? = some (some v))
  | [], [], _ => ⟨fun _ j o i v h => by simp at h, fun _ => trivial⟩
  | [], _ :: _, h => by cases h
  | _ :: _, [], h => by cases h
  | (o, none) :: as, v :: vs, h => by
    refine ⟨fun hl j o i w h1 h2 => ?_, fun hl => (lends_get (as := as) (Nat.succ.inj h)).mpr fun j o i w h1 h2 => hl (j + 1) o i w h1 h2⟩
    cases j with
    | zero => cases h1
    | succ j => exact (lends_get (as := as) (Nat.succ.inj h)).mp hl j o i w h1 h2
  | (o, some i) :: as, v :: vs, h => by
    refine ⟨fun hl j o' i' w h1 h2 => ?_, fun hl => ⟨hl 0 o i v rfl rfl, (lends_get (as := as) (Nat.succ.inj h)).mpr fun j o i w h1 h2 => hl (j + 1) o i w h1 h2⟩⟩
    cases j with
    | zero => cases h1; cases h2; exact hl.1
    | succ j => exact (lends_get (as := as) (Nat.succ.inj h)).mp hl.2 j o' i' w h1 h2
theorem lends_ord {p : List Nat} {as : List Ag} {vs : List V} (hl : as.length = vs.length) (h : lends σ as vs) : lends σ (ord p as) (ord p vs) := by
  rw [lends_get hl] at h
  rw [lends_get (ord_len hl)]
  intro j o i v h1 h2
  have : (ord p (as.zip vs))[j]? = some ((o, some i), v) := by
    rw [ord_zip hl, List.getElem?_zip_eq_some]
    exact ⟨h1, h2⟩
  have hm : ((o, some i), v) ∈ ord p (as.zip vs) := List.mem_of_getElem? this
  unfold ord at hm
  obtain ⟨q, hq, e⟩ := List.mem_filterMap.mp hm
  rw [List.getElem?_zip_eq_some] at e
  exact h q o i v e.1 e.2
/-! ### behind a call -/
/-- what a def leaves of its parameters -/
def livs : List (Option O) → List V → Ts
  | some o :: ps, v :: vs => (o, v) :: livs ps vs
  | none :: ps, _ :: vs => livs ps vs
  | _, _ => []
/-- the lent trees go back to their slots -/
def wb : En → List Ag → List (Option O) → Option En
  | e, (_, some i) :: as, some o :: ps => match e[i]? with
    | some s => match s.cont with
      | none => wb (putS e i o) as ps
      | some _ => none
    | none => none
  | e, _ :: as, _ :: ps => wb e as ps
  | e, _, _ => some e
theorem RS.wb : ∀ {as : List Ag} {ps : List (Option O)} {vs : List V} {e e' : En} {T : Ts}, as.length = vs.length → RS W Z F P e (livs ps vs ++ T) σ H → lends σ as vs → wb e as ps = some e' → RS W Z F P e' T σ H
  | [], ps, vs, e, e', T, hl, r, _, h => by
    have : e = e' := by
      cases ps with
      | nil => exact Option.some.inj h
      | cons p ps => exact Option.some.inj h
    subst this
    exact r.appPop
  | _ :: _, _, [], _, _, _, hl, _, _, _ => by cases hl
  | a :: as, [], v :: vs, e, e', T, hl, r, _, h => by
    have : e = e' := by
      obtain ⟨o, i⟩ := a
      cases i <;> exact Option.some.inj h
    subst this
    exact r.appPop
  | (o, none) :: as, none :: ps, v :: vs, e, e', T, hl, r, l, h => RS.wb (as := as) (ps := ps) (Nat.succ.inj hl) r l h
  | (o, none) :: as, some p :: ps, v :: vs, e, e', T, hl, r, l, h => RS.wb (as := as) (ps := ps) (Nat.succ.inj hl) (RS.pop r) l h
  | (o, some i) :: as, none :: ps, v :: vs, e, e', T, hl, r, l, h => RS.wb (as := as) (ps := ps) (Nat.succ.inj hl) r l.2 h
  | (o, some i) :: as, some p :: ps, v :: vs, e, e', T, hl, r, l, h => by
    unfold MX.wb at h
    cases q : e[i]? with
    | none => rw [q] at h; cases h
    | some s =>
      rw [q] at h
      simp only at h
      cases q2 : s.cont with
      | some _ => rw [q2] at h; cases h
      | none =>
        rw [q2] at h
        simp only at h
        have r1 : RS W Z F P e ((p, v) :: (livs ps vs ++ T)) σ H := r
        have r2 := r1.back q q2 l.1
        refine RS.wb (as := as) (ps := ps) (Nat.succ.inj hl) ?_ l.2 h
        unfold putS
        rw [modS_eq q]
        exact r2
/-- the callee's part of the state, and how the whole comes back -/
theorem RS.frame {C : Ts} (r : RS W Z F P e (C ++ T) σ H) (P0 : Nat → V) : ∃ Fc, RS W.un Z Fc P0 [] C [] H ∧
    ∀ Z' F' H' C' P1, Stp Z Fc H Z' F' H' → RS W.un Z' F' P1 [] C' [] H' → ∃ F2, Stp Z F H Z' F2 H' ∧ RS W Z' F2 P e (C' ++ T) σ H' := by
  obtain ⟨⟨fe, ft, h1, h2, nd, hF⟩, sep, zin, fin, pin, px⟩ := r
  rw [List.map_append, List.map_append] at h2
  obtain ⟨vs', us, fa, fT, ew, ef, a1, a2⟩ := h2.split
  have hl2 : vs'.length = (C.map (·.2)).length := by rw [← a1.len, List.length_map, List.length_map]
  have e1 := List.append_inj ew hl2.symm
  obtain ⟨rfl, rfl⟩ : vs' = C.map (·.2) ∧ us = T.map (·.2) := ⟨e1.1.symm, e1.2.symm⟩
  subst ef
  have fa_F : ∀ a ∈ fa, F a := fun a ha => hF a (List.mem_append_right _ (List.mem_append_left _ ha))
  have fe_F : ∀ a ∈ fe, F a := fun a ha => hF a (List.mem_append_left _ ha)
  have fT_F : ∀ a ∈ fT, F a := fun a ha => hF a (List.mem_append_right _ (List.mem_append_right _ ha))
  have nd1 := List.nodup_append.mp nd
  have nd2 := List.nodup_append.mp nd1.2.1
  have fe_fa : ∀ a ∈ fe, a ∉ fa := fun a ha hb => nd1.2.2 a ha a (List.mem_append_left _ hb) rfl
  have fe_fT : ∀ a ∈ fe, a ∉ fT := fun a ha hb => nd1.2.2 a ha a (List.mem_append_right _ hb) rfl
  have fT_fa : ∀ a ∈ fT, a ∉ fa := fun a ha hb => nd2.2.2 a hb a ha rfl
  refine ⟨fun a => a ∈ fa, ⟨⟨[], fa, ⟨rfl, rfl⟩, ROs.wx (W := W) (W' := W.un) ⟨rfl, rfl⟩ _ _ _ a1, nd2.1, fun a ha => ha⟩, fun a ha => sep a (fa_F a ha), zin, fun a ha => fin a (fa_F a ha), fun i s h => by simp at h, fun i a h => by cases h⟩, ?_⟩
  intro Z' F' H' C' P1 s r'
  obtain ⟨⟨fe', f', ⟨_, efe⟩, h2'', nd', hF'⟩, sep', zin', fin', _⟩ := r'
  have h2' : ROs W H' Z' (C'.map (·.1)) (C'.map (·.2)) f' := ROs.wx (W := W.un) (W' := W) ⟨rfl, rfl⟩ _ _ _ h2''
  subst efe
  have hin : ∀ a, F a → H a ≠ none := fun a ha q => notMut_none q (fin a ha)
  have out : ∀ a, F a → a ∉ fa → ¬ F' a := fun a ha hb hc => (s.f' a hc).elim hb (hin a ha)
  have keepF : ∀ a, F a → a ∉ fa → ∀ u, H a = some u → H' a = some u := fun a _ hb u hu => s.keep a u hu hb
  have kp : Kp H Z H' Z' := ⟨s.z, fun a o z h => s.keep a o h fun hf => sep a (fa_F a hf) z, fun a xs h => s.keep a _ h fun hf => notMut_tup h (fin a (fa_F a hf)), fun a o u h => s.keep a _ h fun hf => notMut_frz h (fin a (fa_F a hf))⟩
  refine ⟨fun a => F' a ∨ a ∈ fe ∨ a ∈ fT, ⟨s.z, fun a o h nf => s.keep a o h fun hf => nf (fa_F a hf), s.dom, fun a h => ?_, fun a h => ?_⟩, ⟨⟨fe, f' ++ fT, h1.keep kp _ _ _ fun a ha => keepF a (fe_F a ha) (fe_fa a ha), ?_, ?_, fun a ha => ?_⟩, fun a h z => ?_, zin', fun a h => ?_, pin, px⟩⟩
  · rcases h with h | h | h
    · exact (s.f' a h).imp (fa_F a) id
    · exact .inl (fe_F a h)
    · exact .inl (fT_F a h)
  · rcases s.z' a h with q | q | q
    · exact .inl q
    · exact .inr (.inl (fa_F a q))
    · exact .inr (.inr q)
  · rw [List.map_append, List.map_append]
    exact ROs.append h2' (a2.keep kp _ _ _ fun a ha => keepF a (fT_F a ha) (fT_fa a ha))
  · rw [List.nodup_append]
    refine ⟨nd1.1, ?_, fun a ha b hb => ?_⟩
    · rw [List.nodup_append]
      exact ⟨nd', nd2.2.1, fun a ha b hb e => out b (fT_F b hb) (fT_fa b hb) (by rw [← e]; exact hF' a ha)⟩
    · intro e
      rcases List.mem_append.mp hb with q | q
      · exact out a (fe_F a ha) (fe_fa a ha) (by rw [e]; exact hF' b q)
      · exact fe_fT a ha (by rw [e]; exact q)
  · rcases List.mem_append.mp ha with q | q
    · exact .inr (.inl q)
    · rcases List.mem_append.mp q with q | q
      · exact .inl (hF' a q)
      · exact .inr (.inr q)
  · rcases h with h | h | h
    · exact sep' a h z
    · rcases s.z' a z with q | q | q
      · exact sep a (fe_F a h) q
      · exact fe_fa a h q
      · exact hin a (fe_F a h) q
    · rcases s.z' a z with q | q | q
      · exact sep a (fT_F a h) q
      · exact fT_fa a h q
      · exact hin a (fT_F a h) q
  · rcases h with h | h | h
    · exact fin' a h
    · have m := fin a (fe_F a h)
      cases q : H a with
      | none => rw [q] at m; exact m.elim
      | some u => rw [keepF a (fe_F a h) (fe_fa a h) u q, ← q]; exact m
    · have m := fin a (fT_F a h)
      cases q : H a with
      | none => rw [q] at m; exact m.elim
      | some u => rw [keepF a (fT_F a h) (fT_fa a h) u q, ← q]; exact m
end
end MX

/-! MX8: a def's promise by its denotation; the call rules. -/
namespace MX
open PySem L2
open PyProof.Rows (envOfC)
/-- a def's promise -/
def spD (W : Wd) (n : Nat) (den : Den) : Sp := fun vs H Q E => ∃ Z F P os, RS W Z F P [] (os.zip vs) [] H ∧ os.length = vs.length ∧ vs.length = n ∧ match den os with
  | .ok o ps => ∀ v Z' F' H' P', Stp Z F H Z' F' H' → RS W Z' F' P' [] ((o, v) :: livs ps vs) [] H' → Q v H'
  | .exc c pl ps => ∀ Z' F' H' P' C dd, W.cl c = some C → Pay W H' Z' pl dd → Stp Z F H Z' F' H' → RS W Z' F' P' [] (livs ps vs) [] H' → E (.ref C) dd H'
  | .bad => False
theorem spD_len {W : Wd} {n : Nat} {den : Den} {ps : List Str} (hn : n = ps.length) : ∀ vs H Q E, spD W n den vs H Q E → vs.length = ps.length := fun vs H Q E ⟨Z, F, P, os, r, hl, hn', _⟩ => by rw [hn', hn]
/-- the slots at a def's start: pinned parameters, parameters, locals -/
def initE : List Bool → List O → Nat → En
  | true :: m, o :: os, n => .p o :: initE m os (n - 1)
  | _ :: m, o :: os, n => .v o :: initE m os (n - 1)
  | _, _, n => List.replicate n .no
def outE : Nat → En → List (Option O)
  | 0, _ => []
  | n + 1, [] => none :: outE n []
  | n + 1, .p o :: e => some o :: outE n e
  | n + 1, _ :: e => none :: outE n e
def denFn (mask : List Bool) (n : Nat) (b : En → Out) : Den := fun os => match b (initE mask os n) with
  | .rt o e => .ok o (outE mask.length e)
  | .nx e => .ok (.d .non) (outE mask.length e)
  | .exc c pl e => .exc c pl (outE mask.length e)
  | _ => .bad
section
variable {W : Wd} {Z F : Addr → Prop} {P : Nat → V} {e : En} {T : Ts} {σ : L2.St} {H : Hp}
theorem init_env : ∀ {mask : List Bool} {os : List O} {vs : List V} {n : Nat} {f : List Addr}, mask.length = os.length → os.length ≤ n → ROs W H Z os vs f → REnv W H Z ((initE mask os n).map Sl.cont) (vs.map some ++ List.replicate (n - vs.length) none) f
  | [], [], vs, n, f, _, _, ⟨e, ef⟩ => by
    subst e ef
    have : ∀ k, REnv W H Z ((List.replicate k Sl.no).map Sl.cont) (List.replicate k (none : Option V)) [] := by
      intro k
      induction k with
      | zero => exact ⟨rfl, rfl⟩
      | succ k ih => exact ⟨none, _, rfl, ih⟩
    exact this n
  | [], _ :: _, _, _, _, h, _, _ => by cases h
  | _ :: _, [], _, _, _, h, _, _ => by cases h
  | b :: mask, o :: os, vs, 0, f, _, h, _ => absurd h (Nat.not_succ_le_zero _)
  | b :: mask, o :: os, vs, n + 1, f, hm, hn, ⟨v, r, f1, f2, ev, ef, h1, h2⟩ => by
    subst ev ef
    have ih := init_env (mask := mask) (n := n) (Nat.succ.inj hm) (Nat.le_of_succ_le_succ hn) h2
    have e2 : n + 1 - (v :: r).length = n - r.length := by rw [List.length_cons]; omega
    rw [e2]
    cases b with
    | true => exact ⟨v, _, f1, f2, rfl, rfl, h1, ih⟩
    | false => exact ⟨v, _, f1, f2, rfl, rfl, h1, ih⟩
theorem init_pin : ∀ {mask : List Bool} {os : List O} {vs : List V} {n : Nat}, mask.length = os.length → os.length = vs.length → ∀ (i : Nat) (s : Sl), (initE mask os n)[i]? = some s → s.pinned = true → ∃ v, vs[i]? = some v
  | [], [], [], n, _, _, i, s, h, hp => by
    have : s = .no := by
      rw [show initE [] [] n = List.replicate n .no from rfl, List.getElem?_replicate] at h
      split at h
      · exact (Option.some.inj h).symm
      · cases h
    subst this; cases hp
  | b :: mask, o :: os, v :: vs, n, _, _, 0, s, _, _ => ⟨v, rfl⟩
  | b :: mask, o :: os, v :: vs, n, h1, h2, i + 1, s, h, hp => by
    have h' : (initE mask os (n - 1))[i]? = some s := by cases b <;> exact h
    exact init_pin (mask := mask) (Nat.succ.inj h1) (Nat.succ.inj h2) i s h' hp
  | [], _ :: _, _, _, h, _, _, _, _, _ => by cases h
  | _ :: _, [], _, _, h, _, _, _, _, _ => by cases h
  | [], [], _ :: _, _, _, h, _, _, _, _ => by cases h
  | _ :: _, _ :: _, [], _, _, h, _, _, _, _ => by cases h
/-- the pinned parameters' trees at the end -/
theorem outs : ∀ {n : Nat} {e : En} {σ : L2.St} {vs : List V} {f : List Addr}, REnv W H Z (e.map Sl.cont) σ f → (∀ (i : Nat) (s : Sl) v, e[i]? = some s → s.pinned = true → vs[i]? = some v → σ[i]? = some (some v)) →
    ∃ g, ROs W H Z ((livs (outE n e) vs).map (·.1)) ((livs (outE n e) vs).map (·.2)) g ∧ g.Sublist f
  | 0, e, σ, vs, f, _, _ => ⟨[], ⟨rfl, rfl⟩, List.nil_sublist _⟩
  | n + 1, [], σ, [], f, _, _ => ⟨[], ⟨rfl, rfl⟩, List.nil_sublist _⟩
  | n + 1, [], σ, v :: vs, f, h, hp => outs (n := n) (e := []) (σ := σ) (vs := vs) h fun i s w h1 => by simp at h1
  | n + 1, s :: e, σ, [], f, _, _ => ⟨[], by cases s <;> exact ⟨rfl, rfl⟩, List.nil_sublist _⟩
  | n + 1, .p o :: e, σ, v :: vs, f, ⟨w, r, f1, f2, es, ef, h1, h2⟩, hp => by
    subst es ef
    have : w = v := Option.some.inj (Option.some.inj (hp 0 (.p o) v rfl rfl rfl))
    subst this
    obtain ⟨g, hg, sg⟩ := outs (n := n) (vs := vs) h2 fun i s u h1 h2 h3 => hp (i + 1) s u h1 h2 h3
    exact ⟨f1 ++ g, ⟨w, _, f1, g, rfl, rfl, h1, hg⟩, List.Sublist.append_left sg f1⟩
  | n + 1, .v o :: e, σ, v :: vs, f, ⟨w, r, f1, f2, es, ef, h1, h2⟩, hp => by
    subst es ef
    obtain ⟨g, hg, sg⟩ := outs (n := n) (vs := vs) h2 fun i s u h1 h2 h3 => hp (i + 1) s u h1 h2 h3
    exact ⟨g, hg, sg.trans (List.sublist_append_right _ _)⟩
  | n + 1, .no :: e, σ, v :: vs, f, ⟨w, r, es, h2⟩, hp => by
    subst es
    exact outs (n := n) (vs := vs) h2 fun i s u h1 h2 h3 => hp (i + 1) s u h1 h2 h3
  | n + 1, .pn :: e, σ, v :: vs, f, ⟨w, r, es, h2⟩, hp => by
    subst es
    exact outs (n := n) (vs := vs) h2 fun i s u h1 h2 h3 => hp (i + 1) s u h1 h2 h3
theorem RS.outs {vs : List V} {n : Nat} (r : RS W Z F P e T σ H) (hp : ∀ (i : Nat) v, vs[i]? = some v → P i = v) : RS W Z F P [] (T ++ livs (outE n e) vs) [] H := by
  obtain ⟨⟨fe, ft, h1, h2, nd, hF⟩, sep, zin, fin, pin, px⟩ := r
  obtain ⟨g, hg, sg⟩ := MX.outs (n := n) (vs := vs) h1 fun i s v h1 h2 h3 => by rw [← hp i v h3]; exact pin i s h1 h2
  have nd' : (ft ++ fe).Nodup := (List.perm_append_comm).nodup nd
  refine ⟨⟨[], ft ++ g, ⟨rfl, rfl⟩, by rw [List.map_append, List.map_append]; exact ROs.append h2 hg, nd'.sublist (List.Sublist.append_left sg ft), fun a ha => hF a ?_⟩, sep, zin, fin, fun i s h => by simp at h, px⟩
  rw [List.nil_append] at ha
  rcases List.mem_append.mp ha with q | q
  · exact List.mem_append_right _ q
  · exact List.mem_append_left _ (sg.subset q)
end
/-- THE RULE: a def by its body -/
theorem fn_ok {Pg : Program} {w : World} {K : PySem.W.Frag} {mg : Str → Option Value} {base : Heap} {cl : Cl} {x qual : Str} {st : Stmt} {f : Addr} {fd : FuncData} {N ps : List Str} {k : Nat} {mask : List Bool} {db : En → Out}
    (hex : cl.ex = none) (Fn : Fun K x qual st f fd) (S : FnScope N ps (defScope st)) (hm : mask.length = ps.length) (hN : ps.length ≤ N.length)
    (hb : ∀ (cdv : Value) (A : Around) (outer : List Env) (s : Shared) (H : Hp) (E : XK), Room k (A.deeper (envOfC qual (defScope st) s.heap.objs.size f cdv)) →
      HSs (cxOf (L2.CX Pg w) Pg w K mg base N qual (defScope st) f cdv A outer s H E) cl (fun c d _ H => E c d H) (defBody st) db) :
    FnOk Pg w K mg base (L2.CX Pg w) (k + 1) f fd ps (spD ⟨K, cl.f, none⟩ ps.length (denFn mask N.length db)) := by
  obtain ⟨cf, ce⟩ := cl
  cases (show ce = none from hex)
  refine Fn.okX S (spD_len rfl) (fun cdv A outer s H vs Q E hr h => ?_)
  refine ⟨_, hb cdv A outer s H E hr, ?_⟩
  obtain ⟨Z, F, P, os, r, hl, hn, k⟩ := h
  have hmo : mask.length = os.length := by rw [hm, hl, hn]
  obtain ⟨⟨fe, ft, ⟨_, efe⟩, h2, nd, hF⟩, sep, zin, fin, _⟩ := r
  subst efe
  rw [List.map_fst_zip (Nat.le_of_eq hl), List.map_snd_zip (Nat.le_of_eq hl.symm)] at h2
  have hon : os.length ≤ N.length := by rw [hl, hn]; exact hN
  have hP : ∀ (i : Nat) v, vs[i]? = some v → vs.getD i .non = v := fun i v h => by rw [List.getD_eq_getElem?_getD, h]; rfl
  have r0 : RS ⟨K, cf, none⟩ Z F (fun i => vs.getD i .non) (initE mask os N.length) [] (L2.start N vs) H := by
    refine ⟨⟨ft, [], init_env hmo hon h2, ⟨rfl, rfl⟩, by rw [List.append_nil]; exact nd, fun a ha => hF a (by rw [List.append_nil] at ha; exact ha)⟩, sep, zin, fin, fun i s hi hp => ?_, fun i a h => by cases h⟩
    obtain ⟨v, hv⟩ := init_pin hmo hl i s hi hp
    unfold L2.start
    rw [List.getElem?_append_left (by rw [List.length_map]; exact lt_of_get hv), List.getElem?_map, hv]
    show some (some v) = some (some (vs.getD i .non))
    rw [hP i v hv]
  refine ⟨Z, F, _, _, [], r0, ?_⟩
  unfold denFn at k
  cases q : db (initE mask os N.length) with
  | nx e => rw [q] at k; exact fun σ' Z' F' H' s' r' => k .non Z' F' H' _ s' ((r'.outs (n := mask.length) hP).push (x := .non) (v := .non) rfl)
  | rt o e => rw [q] at k; exact fun v σ' Z' F' H' s' r' => k v Z' F' H' _ s' (r'.outs (n := mask.length) hP)
  | exc c pl e => rw [q] at k; exact fun σ' Z' F' H' C dd hc py s' r' => k Z' F' H' _ C dd hc py s' (r'.outs (n := mask.length) hP)
  | bk e => rw [q] at k; exact k.elim
  | ct e => rw [q] at k; exact k.elim
  | bad => rw [q] at k; exact k.elim
/-! ### calls -/
def dCallF (den : Den) (p : List Nat) (g : En → Rs (List Ag)) : En → Rs O := fun e => (g e).bind fun as e1 => match den ((ord p as).map (·.1)) with
  | .ok o ps => match wb e1 (ord p as) ps with
    | some e2 => .ok o e2
    | none => .bad
  | .exc c pl ps => match wb e1 (ord p as) ps with
    | some e2 => .exc c pl e2
    | none => .bad
  | .bad => .bad
section
variable {X : Cx} {cl : Cl} {Wo : WX} {pos : Pos}
variable {W : Wd} {Z F Z' F' : Addr → Prop} {P P' : Nat → V} {e : En} {T : Ts} {σ : L2.St} {H H' : Hp} {Q : VK}
theorem rdCallF {den : Den} {p : List Nat} {n : Nat} {g : En → Rs (List Ag)} (hp : p.Perm (List.range n)) (hn : LenIs n g) (h : rdE W Wo (dCallF den p g) σ H Q) :
    rdC W Wo g σ H fun vs H1 => vs.length = n ∧ spD W.un n den (ord p vs) H1 Q (fun c d H => Wo c d σ H) := by
  obtain ⟨Z, F, P, e, T, r0, k⟩ := h
  refine ⟨Z, F, P, e, T, r0, ?_⟩
  unfold dCallF at k
  cases qa : g e with
  | bad => rw [qa] at k; exact k
  | exc c ps e1 => rw [qa] at k; exact k
  | ok as e1 =>
    rw [qa] at k
    simp only [Rs.bind_ok] at k
    intro vs Z1 F1 H1 hl s1 r1 l1
    have han : as.length = n := hn e as e1 qa
    have hvn : vs.length = n := by rw [← hl, han]
    refine ⟨hvn, ?_⟩
    have r2 : RS W Z1 F1 P e1 (((ord p as).map (·.1)).zip (ord p vs) ++ T) σ H1 := by
      refine r1.perm (List.Perm.append_right _ ?_)
      rw [← ord_map, ← ord_zip (by rw [List.length_map, hl])]
      refine (ord_perm ?_).symm
      show p.Perm (List.range ((as.map (·.1)).zip vs).length)
      rw [List.length_zip, List.length_map, hl, Nat.min_self, hvn]
      exact hp
    have hlo : (ord p as).length = (ord p vs).length := ord_len hl
    have hon : (ord p vs).length = n := by
      have := (ord_perm (p := p) (l := vs) (by rw [hvn]; exact hp)).length_eq
      rw [this, hvn]
    obtain ⟨Fc, rc, back⟩ := r2.frame P
    refine ⟨Z1, Fc, P, (ord p as).map (·.1), rc, by rw [List.length_map, hlo], hon, ?_⟩
    cases qd : den ((ord p as).map (·.1)) with
    | bad => rw [qd] at k; exact k.elim
    | ok o ps =>
      rw [qd] at k
      simp only at k
      intro v Z2 F2 H2 P2 s2 r3
      cases qw : wb e1 (ord p as) ps with
      | none => rw [qw] at k; exact k.elim
      | some e2 =>
        rw [qw] at k
        obtain ⟨F3, s3, r4⟩ := back Z2 F2 H2 _ P2 s2 r3
        have r5 : RS W Z2 F3 P e1 (livs ps (ord p vs) ++ ((o, v) :: T)) σ H2 := r4.perm List.perm_middle.symm
        exact k v Z2 F3 H2 (s1.trans s3) (r5.wb hlo (lends_ord hl l1) qw)
    | exc c pl ps =>
      rw [qd] at k
      simp only at k
      intro Z2 F2 H2 P2 C dd hc py s2 r3
      cases qw : wb e1 (ord p as) ps with
      | none => rw [qw] at k; exact k.elim
      | some e2 =>
        rw [qw] at k
        obtain ⟨F3, s3, r4⟩ := back Z2 F2 H2 _ P2 s2 r3
        exact k Z2 F3 H2 C dd hc (Pay.wx (W := W.un) (W' := W) ⟨rfl, rfl⟩ py) (s1.trans s3) (r4.wb hlo (lends_ord hl l1) qw)
theorem rdC_len {n : Nat} {g : En → Rs (List Ag)} {Q : List V → Hp → Prop} (hn : LenIs n g) (h : rdC W Wo g σ H Q) : rdC W Wo g σ H fun vs H1 => vs.length = n ∧ Q vs H1 := by
  obtain ⟨Z, F, P, e, T, r0, k⟩ := h
  refine ⟨Z, F, P, e, T, r0, ?_⟩
  cases qa : g e with
  | bad => rw [qa] at k; exact k
  | exc c ps e1 => rw [qa] at k; exact k
  | ok as e1 =>
    rw [qa] at k
    exact fun vs Z1 F1 H1 hl s1 r1 l1 => ⟨by rw [← hl]; exact hn e as e1 qa, k vs Z1 F1 H1 hl s1 r1 l1⟩
/-- how a call's arguments come to the parameters: n0 positional ones, n1 by the names ks; p tells for each parameter which one -/
structure KB (K : PySem.W.Frag) (fd : FuncData) (ps ks : List Str) (n0 n1 : Nat) (p : List Nat) : Prop where
  to : ∀ (s : Shared) (us ws : List Value), K.In s.heap → us.length = n0 → ws.length = n1 → BindsTo s fd ⟨us, ks.zip ws⟩ (ps.zip (ord p (us ++ ws)))
  pm : p.Perm (List.range (n0 + n1))
theorem KB.plain {K : PySem.W.Frag} {fd : FuncData} {ps : List Str} (b : Binds K fd ps []) {n : Nat} (hn : n = ps.length) : KB K fd ps [] n 0 (List.range n) :=
  ⟨fun s us ws hk h0 h1 => by
    have : ws = [] := List.length_eq_zero_iff.mp h1
    subst this
    have h2 := b s us hk (by rw [List.append_nil, h0, hn])
    rw [List.append_nil, ← h0, ord_range]
    rw [List.append_nil] at h2
    exact h2, List.Perm.refl _⟩
theorem vals_ord {vs : List V} {us : List Value} (r : Vals vs us) (p : List Nat) : Vals (ord p vs) (ord p us) := by
  have hl := r.length
  unfold ord
  induction p with
  | nil => exact .nil
  | cons i p ih =>
    rw [List.filterMap_cons, List.filterMap_cons]
    rcases Nat.lt_or_ge i vs.length with q | q
    · have e1 : vs[i]? = some vs[i] := List.getElem?_eq_getElem q
      obtain ⟨u, e2, ru⟩ := r.get e1
      rw [e1, e2]
      exact .cons ru ih
    · rw [List.getElem?_eq_none q, List.getElem?_eq_none (by omega)]
      exact ih
theorem run_own {CX : CXT} {k : Nat} {f : Addr} {fd : FuncData} {ps : List Str} {sp : Sp} {E : XK} {pins : List (Addr × Obj)} {s : Shared} {us us' : List Value} {kw : List (Str × Value)} {vs : List V}
    (Fn : FnOk X.prog X.w X.K X.mg X.base CX k f fd ps sp) (hr : Room k X.A) (hb : BindsTo s fd ⟨us, kw⟩ (ps.zip us')) (r : Vals vs us') (hx : PassesAt CX X σ E) (I : Inv X pins σ H s) (h : sp vs H Q E) :
    wpAny (model X.prog X.w) X.A (call (.ref f) us kw) (EP X pins σ Q) X.xe s := by
  refine wpAny_call (codeAny_mono (Fn.run X.A X.stack s H ⟨us, kw⟩ us' vs Q E hr I.env0 hb r h) fun r s' hq => ?_)
  cases r with
  | error e => exact hx pins H s e s' I hq
  | ok fl =>
    cases fl with
    | ret u => exact I.after hq
    | next => exact False.elim hq
    | brk => exact False.elim hq
    | cont => exact False.elim hq
theorem pass_own (tk : Takes X Wo) (σ : L2.St) : PassesAt (L2.CX X.prog X.w) X σ (fun c d H => Wo c d σ H) := passAt tk σ
section
variable {k : Nat} {f : Addr} {fd : FuncData} {ps ks : List Str} {n n0 n1 : Nat} {p : List Nat} {den : Den} {x : Str} {np : Pos} {a : Expr} {es : List Expr} {kws : List Keyword} {g g' : En → Rs (List Ag)}
/-- f(..): positional arguments -/
theorem he_fn (Fn : FnOk X.prog X.w X.K X.mg X.base (L2.CX X.prog X.w) k f fd ps (spD (Cx.wd X cl).un n0 den)) (hr : Room k X.A) (tk : Takes X Wo) (hg : Gl X x) (hm : X.mg x = some (.ref f)) (hk : PySem.W.keepIn X.K (.ref f) = true) (hb : KB X.K fd ps [] n0 0 p)
    (ha : HC X cl Wo (a :: es) n0 g) (hdb : (x == ("__debug__" : Str)) = false := by decide) (he : starEach (a :: es) X.env = (false, eval a X.env) :: starEach es X.env := by rfl) (hpl : (backTo pos (starEach es X.env)).any (·.1) = false := by rfl) :
    HE X cl Wo (.Call (.Name x np) (a :: es) [] pos) (dCallF den p g) := by
  refine ⟨fun pins s σ H Q I h => ?_⟩
  refine wpAny_Call_Name_kw (ld_glob I hg hm ?_ hdb)
  refine PySem.W.callWith_K (h₀ := X.base) I.ok.mod.kin hk (thn (ha.run.run pos pins s σ H _ I (rdCallF hb.pm ha.len h)) fun us s1 ⟨vs, H1, I1, r, hn, q⟩ => ⟨I1.kIn, ?_⟩) he hpl
  refine run_own Fn hr ?_ (vals_ord r p) (pass_own tk σ) I1 q
  have := hb.to s1 us [] I1.kIn (by rw [← r.length, hn]; rfl) rfl
  rw [List.append_nil] at this
  exact this
/-- f(.., k = e) -/
theorem he_fnK (Fn : FnOk X.prog X.w X.K X.mg X.base (L2.CX X.prog X.w) k f fd ps (spD (Cx.wd X cl).un (n0 + n1) den)) (hr : Room k X.A) (tk : Takes X Wo) (hg : Gl X x) (hm : X.mg x = some (.ref f)) (hk : PySem.W.keepIn X.K (.ref f) = true) (hb : KB X.K fd ps ks n0 n1 p)
    (ha : HC X cl Wo (a :: es) n0 g) (hkw : HCK X cl Wo kws n1 g') (hall : (backToKw pos (keywordEach kws X.env)).all (·.1.isSome) = true := by rfl) (hks : (backToKw pos (keywordEach kws X.env)).filterMap (·.1) = ks := by rfl)
    (hdb : (x == ("__debug__" : Str)) = false := by decide) (he : starEach (a :: es) X.env = (false, eval a X.env) :: starEach es X.env := by rfl)
    (hpl : ((backTo pos (starEach (a :: es) X.env)).any (·.1) || (backToKw pos (keywordEach kws X.env)).any (·.1.isNone)) = false := by rfl) :
    HE X cl Wo (.Call (.Name x np) (a :: es) kws pos) (dCallF den p (cApp g g')) := by
  refine ⟨fun pins s σ H Q I h => ?_⟩
  refine wpAny_Call_Name_kw (ld_glob I hg hm ?_ hdb)
  have h1 := rdC_len ha.len (rdC_app (rdCallF hb.pm (len_app ha.len hkw.len) h))
  refine PySem.W.callWith_KW (h₀ := X.base) I.ok.mod.kin hk hall (thn (ha.run.run pos pins s σ H _ I h1) fun us s1 ⟨vs, H1, I1, r, hv, q⟩ => ?_) hpl he
  refine thn (hkw.run.run pos pins s1 σ H1 _ I1 q) fun ws s2 ⟨zs, H2, I2, rz, hn, q2⟩ => ⟨I2.kIn, ?_⟩
  rw [hks]
  refine run_own Fn hr (hb.to s2 us ws I2.kIn (by rw [← r.length, hv]) ?_) (vals_ord (r.append rz) p) (pass_own tk σ) I2 q2
  rw [List.length_append, hv] at hn
  rw [← rz.length]
  omega
/-- f(k = e, ..) -/
theorem he_fnK0 (Fn : FnOk X.prog X.w X.K X.mg X.base (L2.CX X.prog X.w) k f fd ps (spD (Cx.wd X cl).un n1 den)) (hr : Room k X.A) (tk : Takes X Wo) (hg : Gl X x) (hm : X.mg x = some (.ref f)) (hk : PySem.W.keepIn X.K (.ref f) = true) (hb : KB X.K fd ps ks 0 n1 p)
    (hkw : HCK X cl Wo kws n1 g') (hall : (backToKw pos (keywordEach kws X.env)).all (·.1.isSome) = true := by rfl) (hks : (backToKw pos (keywordEach kws X.env)).filterMap (·.1) = ks := by rfl)
    (hdb : (x == ("__debug__" : Str)) = false := by decide) (hpl : ((backTo pos (starEach [] X.env)).any (·.1) || (backToKw pos (keywordEach kws X.env)).any (·.1.isNone)) = false := by rfl) :
    HE X cl Wo (.Call (.Name x np) [] kws pos) (dCallF den p g') := by
  refine ⟨fun pins s σ H Q I h => ?_⟩
  refine wpAny_Call_Name_kw (ld_glob I hg hm ?_ hdb)
  have pm : p.Perm (List.range n1) := by have := hb.pm; rw [Nat.zero_add] at this; exact this
  refine PySem.W.callWith_KW0 (h₀ := X.base) I.ok.mod.kin hk hall (thn (hkw.run.run pos pins s σ H _ I (rdCallF pm hkw.len h)) fun ws s2 ⟨zs, H2, I2, rz, hn, q2⟩ => ⟨I2.kIn, ?_⟩) hpl
  rw [hks]
  refine run_own Fn hr (hb.to s2 [] ws I2.kIn rfl (by rw [← rz.length, hn])) (vals_ord (us := [] ++ ws) rz p) (pass_own tk σ) I2 q2
/-- f() -/
theorem he_fn0 (Fn : FnOk X.prog X.w X.K X.mg X.base (L2.CX X.prog X.w) k f fd ps (spD (Cx.wd X cl).un 0 den)) (hr : Room k X.A) (tk : Takes X Wo) (hg : Gl X x) (hm : X.mg x = some (.ref f)) (hk : PySem.W.keepIn X.K (.ref f) = true) (hb : KB X.K fd ps [] 0 0 [])
    (hdb : (x == ("__debug__" : Str)) = false := by decide) : HE X cl Wo (.Call (.Name x np) [] [] pos) (dCallF den [] cNil) := by
  refine ⟨fun pins s σ H Q I h => ?_⟩
  refine wpAny_Call_Name_kw (ld_glob I hg hm ?_ hdb)
  obtain ⟨_, q⟩ := rdC_nil (rdCallF (n := 0) (List.Perm.refl _) len_nil h)
  exact PySem.W.callWith_K0 I.kIn hk (run_own (us := []) (us' := []) Fn hr (hb.to s [] [] I.kIn rfl rfl) .nil (pass_own tk σ) I q)
end
end
end MX

/-! MX9: writes to owned containers, methods of slots, iterators, comprehensions. -/
namespace MX
open PySem L2
section
variable {X : Cx} {cl : Cl} {Wo : WX} {pos : Pos}
variable {W : Wd} {Z F Z' F' : Addr → Prop} {P P' : Nat → V} {e : En} {T : Ts} {σ : L2.St} {H H' : Hp} {Q : VK}
theorem RS.write {C C' : Ts} {a : Addr} {o : HO} (r : RS W Z F P e (C ++ T) σ H) (hm : Mut (some o))
    (h1 : ∀ fC, ROs W H Z (C.map (·.1)) (C.map (·.2)) fC → a ∈ fC)
    (h2 : Kp H Z (upd H a o) Z → ∀ fC, ROs W H Z (C.map (·.1)) (C.map (·.2)) fC → fC.Nodup → ∃ f', ROs W (upd H a o) Z (C'.map (·.1)) (C'.map (·.2)) f' ∧ f'.Nodup ∧ ∀ b ∈ f', b ∈ fC) :
    Stp Z F H Z F (upd H a o) ∧ RS W Z F P e (C' ++ T) σ (upd H a o) := by
  obtain ⟨⟨fe, ft, hE, hT, nd, hF⟩, sep, zin, fin, pin, px⟩ := r
  rw [List.map_append, List.map_append] at hT
  obtain ⟨vs', us, fa, fT, ew, ef, a1, a2⟩ := hT.split
  have hl2 : vs'.length = (C.map (·.2)).length := by rw [← a1.len, List.length_map, List.length_map]
  have e1 := List.append_inj ew hl2.symm
  obtain ⟨rfl, rfl⟩ : vs' = C.map (·.2) ∧ us = T.map (·.2) := ⟨e1.1.symm, e1.2.symm⟩
  subst ef
  have ha := h1 fa a1
  have nd1 := List.nodup_append.mp nd
  have nd2 := List.nodup_append.mp nd1.2.1
  have fa_F : ∀ a ∈ fa, F a := fun a ha => hF a (List.mem_append_right _ (List.mem_append_left _ ha))
  have aF := fa_F a ha
  have kp : Kp H Z (upd H a o) Z := ⟨fun _ z => z, fun b u z hb => by rw [upd_ne (fun q => sep a aF (by rw [← q]; exact z))]; exact hb, fun b xs hb => by rw [upd_ne (fun q => by rw [q] at hb; exact notMut_tup hb (fin a aF))]; exact hb, fun b ob u hb => by rw [upd_ne (fun q => by rw [q] at hb; exact notMut_frz hb (fin a aF))]; exact hb⟩
  obtain ⟨f', b1, b2, b3⟩ := h2 kp fa a1 nd2.1
  have ne1 : ∀ b ∈ fe, b ≠ a := fun b hb q => nd1.2.2 b hb a (List.mem_append_left _ ha) q
  have ne2 : ∀ b ∈ fT, b ≠ a := fun b hb q => nd2.2.2 a ha b hb q.symm
  refine ⟨⟨fun _ z => z, fun b u hb nf => by rw [upd_ne (fun q => nf (by rw [q]; exact aF))]; exact hb, dom_upd, fun _ f => .inl f, fun _ z => .inl z⟩, ⟨⟨fe, f' ++ fT, hE.keep kp _ _ _ fun b hb u hu => by rw [upd_ne (ne1 b hb)]; exact hu, ?_, ?_, fun b hb => ?_⟩, sep, fun b z => dom_upd b (zin b z), fun b f => ?_, pin, px⟩⟩
  · rw [List.map_append, List.map_append]
    exact ROs.append b1 (a2.keep kp _ _ _ fun b hb u hu => by rw [upd_ne (ne2 b hb)]; exact hu)
  · rw [List.nodup_append]
    refine ⟨nd1.1, ?_, fun b hb c hc q => ?_⟩
    · rw [List.nodup_append]
      exact ⟨b2, nd2.2.1, fun b hb c hc q => nd2.2.2 b (b3 b hb) c hc q⟩
    · rcases List.mem_append.mp hc with z | z
      · exact nd1.2.2 b hb c (List.mem_append_left _ (b3 c z)) q
      · exact nd1.2.2 b hb c (List.mem_append_right _ z) q
  · rcases List.mem_append.mp hb with z | z
    · exact hF b (List.mem_append_left _ z)
    · rcases List.mem_append.mp z with z | z
      · exact fa_F b (b3 b z)
      · exact hF b (List.mem_append_right _ (List.mem_append_right _ z))
  · by_cases q : b = a
    · rw [q, upd_same]; exact hm
    · rw [upd_ne q]; exact fin b f
/-! ### methods of a slot's list -/
/-- what a method must say: c the list's items, os the arguments; behind it c', the answer z -/
def MutOk (W : Wd) (f : List O → List O → Option (List O × O)) (r : V → List V → Hp → VK → Prop) : Prop :=
  ∀ Z F P e T σ H c os c' z a vs Q, f c os = some (c', z) → os.length = vs.length → RS W Z F P e ((.lst c, .ref a) :: (os.zip vs ++ T)) σ H →
    (∀ w Z' F' H', Stp Z F H Z' F' H' → RS W Z' F' P e ((z, w) :: (.lst c', .ref a) :: T) σ H' → Q w H') → r (.ref a) vs H Q
def isLst : Option O → Bool
  | some (.lst _) => true
  | _ => false
def dMut (i : Nat) (f : List O → List O → Option (List O × O)) (d : En → Rs (List O)) : En → Rs O := fun e => match isLst (slot e i) with
  | true => (d e).bind fun os e1 => match slot e1 i with
    | some (.lst c) => match f c os with
      | some (c', z) => .ok z (putS e1 i (.lst c'))
      | none => .bad
    | _ => .bad
  | false => .bad
theorem isLst_some {o : Option O} (h : isLst o = true) : ∃ c, o = some (.lst c) := by
  unfold isLst at h
  split at h
  · exact ⟨_, rfl⟩
  · cases h
theorem rdMut {i : Nat} {f} {r : V → List V → Hp → VK → Prop} {d : En → Rs (List O)} (hf : MutOk W f r) (h : rdE W Wo (dMut i f d) σ H Q) :
    tVar i σ H fun x H1 => tyV W.K "list" x H1 ∧ rdA W Wo d σ H1 fun xs H2 => r x xs H2 Q := by
  obtain ⟨Z, F, P, e, T, r0, k⟩ := h
  unfold dMut at k
  cases q0 : isLst (slot e i) with
  | false => rw [q0] at k; exact k.elim
  | true =>
    obtain ⟨c0, q1⟩ := isLst_some q0
    rw [q0] at k
    simp only at k
    obtain ⟨v, f0, hv, ⟨a, vs0, f1, ev, hh, _, _⟩, _⟩ := slot_get r0 q1
    subst ev
    refine ⟨.ref a, hv, .inl ⟨rfl, vs0, .inl (.inl hh)⟩, Z, F, P, e, T, r0, ?_⟩
    cases qd : d e with
    | bad => rw [qd] at k; exact k
    | exc c ps e1 => rw [qd] at k; exact k
    | ok os e1 =>
      rw [qd] at k
      simp only [Rs.bind_ok] at k
      intro vs Z1 F1 H1 hl s1 r1
      cases q2 : slot e1 i with
      | none => rw [q2] at k; exact k.elim
      | some o =>
        rw [q2] at k
        cases o with
        | lst c =>
          simp only at k
          cases q3 : f c os with
          | none => rw [q3] at k; exact k.elim
          | some cz =>
            obtain ⟨c', z⟩ := cz
            rw [q3] at k
            simp only at k
            obtain ⟨s, hs, hc⟩ := slot_some q2
            obtain ⟨v', hv', r2⟩ := r1.lend hs hc
            rw [hv] at hv'
            cases hv'
            refine hf Z1 F1 P _ T σ H1 c os c' z a vs Q q3 hl r2 fun w Z2 F2 H2 s2 r3 => ?_
            have r4 : RS W Z2 F2 P (e1.set i s.lent) ((.lst c', .ref a) :: (z, w) :: T) σ H2 := r3.perm (List.Perm.swap _ _ _)
            have r5 := RS.back r4 (i := i) (s := s.lent) (get_set_self hs) (by cases s <;> rfl) hv
            rw [set_set, lent_put hc] at r5
            have e5 : putS e1 i (.lst c') = e1.set i (s.put (.lst c')) := by unfold putS; rw [modS_eq hs]
            rw [e5] at k
            exact k w Z2 F2 H2 (s1.trans s2) r5
        | _ => exact k.elim
/-- x.m(e, ..), x a slot -/
theorem he_mut {i : Nat} {x : Str} {p apos : Pos} {name : Str} {id : String} {ex : Expr} {es : List Expr} {f} {r : V → List V → Hp → VK → Prop} {d : En → Rs (List O)} (hf : MutOk (Cx.wd X cl) f r)
    (h : PE X (.Call (.Attribute (.Name x p) name apos) (ex :: es) [] pos) (tBM X.K "list" r (tVar i) (rdA (Cx.wd X cl) Wo d))) : HE X cl Wo (.Call (.Attribute (.Name x p) name apos) (ex :: es) [] pos) (dMut i f d) :=
  PE.imp h fun σ H Q h => rdMut hf h
theorem he_mut0 {i : Nat} {x : Str} {p apos : Pos} {name : Str} {id : String} {f} {r : V → List V → Hp → VK → Prop} (hf : MutOk (Cx.wd X cl) f r)
    (h : PE X (.Call (.Attribute (.Name x p) name apos) [] [] pos) (tBM0 X.K "list" r (tVar i))) : HE X cl Wo (.Call (.Attribute (.Name x p) name apos) [] [] pos) (dMut i f aNil) :=
  PE.imp h fun σ H Q h => by
    obtain ⟨v, hv, ty, Z, F, P, e, T, r0, k⟩ := rdMut hf h
    exact ⟨v, hv, ty, k [] Z F H rfl .refl r0⟩
theorem ros_one {o : O} {v : V} {f : List Addr} (h : ROs W H Z [o] [v] f) : RO W H Z o v f := by
  obtain ⟨v', r, f1, f2, ev, ef, h1, er, e2⟩ := h
  cases ev
  subst ef e2
  rw [List.append_nil]
  exact h1
def fAppend : List O → List O → Option (List O × O)
  | c, [o] => if c.length < sizeLine then some (c ++ [o], .d .non) else none
  | _, _ => none
theorem mAppend : MutOk W fAppend rAppend := by
  intro Z F P e T σ H c os c' z a vs Q hf hl r k
  unfold fAppend at hf
  split at hf
  · rename_i o
    split at hf
    · rename_i hz; cases hf
      match vs, hl with
      | [v], _ =>
        have r' : RS W Z F P e (([(.lst c, .ref a), (o, v)] : Ts) ++ T) σ H := r
        obtain ⟨f, hro, _⟩ := r.top
        obtain ⟨a', us, f', ev, hh, _, hc⟩ := hro
        cases ev
        refine ⟨a, us, v, rfl, rfl, hh, by rw [← hc.len]; exact hz, ?_⟩
        have hw := RS.write (C' := [(.lst (c ++ [o]), .ref a)]) (o := .lst (us ++ [v])) r' trivial (fun fC hC => by
            obtain ⟨v', rr, f1, f2, ev, ef, ⟨a', us', f3, ev', _, e3, _⟩, _⟩ := hC
            cases ev
            cases ev'
            rw [ef, e3]
            exact List.mem_append_left _ List.mem_cons_self) (fun kp fC hC nd => by
            obtain ⟨v', rr, f1, f2, ev, ef, ⟨a', us', f3, ev', hh', e3, hcs⟩, ho⟩ := hC
            cases ev
            cases ev'
            rw [hh] at hh'
            cases hh'
            have ho' := ros_one ho
            subst ef e3
            have nd1 := List.nodup_append.mp nd
            have nd3 := List.nodup_cons.mp nd1.1
            have na : ∀ b ∈ f3, b ≠ a := fun b hb q => nd3.1 (by rw [← q]; exact hb)
            have nb : ∀ b ∈ f2, b ≠ a := fun b hb q => nd1.2.2 a List.mem_cons_self b hb q.symm
            refine ⟨a :: (f3 ++ f2), ⟨_, _, a :: (f3 ++ f2), [], rfl, (List.append_nil _).symm, ⟨a, us ++ [v], f3 ++ f2, rfl, upd_same, rfl, ROs.append (hcs.keep kp _ _ _ fun b hb u hu => by rw [upd_ne (na b hb)]; exact hu) (ROs.one (ho'.keep kp _ _ _ fun b hb u hu => by rw [upd_ne (nb b hb)]; exact hu))⟩, rfl, rfl⟩, nd, fun b hb => hb⟩)
        exact k .non Z F _ hw.1 (hw.2.push (x := .non) (v := .non) rfl)
    · cases hf
  · cases hf
/-- pop(): the last one -/
def fPop : List O → List O → Option (List O × O)
  | c, [] => match c[c.length - 1]? with
    | some o => some (c.dropLast, o)
    | none => none
  | _, _ => none
theorem ros_eraseIdx : ∀ {os : List O} {vs : List V} {f : List Addr} {i : Nat} {o : O}, ROs W H Z os vs f → os[i]? = some o →
    ∃ v f1 f2 f3, vs[i]? = some v ∧ f = f1 ++ f2 ++ f3 ∧ RO W H Z o v f2 ∧ ROs W H Z (os.eraseIdx i) (vs.eraseIdx i) (f1 ++ f3)
  | [], _, _, _, _, _, e => by simp at e
  | p :: os, vs, f, 0, o, ⟨v, r, f1, f2, e, ef, h1, h2⟩, e' => by
    have : p = o := Option.some.inj e'
    subst this
    exact ⟨v, [], f1, f2, by rw [e]; rfl, by rw [ef]; rfl, h1, by rw [e]; exact h2⟩
  | p :: os, vs, f, i + 1, o, ⟨v, r, f1, f2, e, ef, h1, h2⟩, e' => by
    obtain ⟨x, g1, g2, g3, hx, eg, hr, h3⟩ := ros_eraseIdx (i := i) h2 e'
    exact ⟨x, f1 ++ g1, g2, g3, by rw [e]; exact hx, by rw [ef, eg]; simp, hr, by rw [e]; exact ⟨v, r.eraseIdx i, f1, g1 ++ g3, rfl, by simp, h1, h3⟩⟩
theorem mPopCore {Z F : Addr → Prop} {P : Nat → V} {e : En} {T : Ts} {σ : L2.St} {H : Hp} {c : List O} {a : Addr} {i : Nat} {o : O} (r : RS W Z F P e ((.lst c, .ref a) :: T) σ H) (hi : c[i]? = some o) :
    ∃ us v, H a = some (.lst us) ∧ us.length = c.length ∧ us[i]? = some v ∧ Stp Z F H Z F (upd H a (.lst (us.eraseIdx i))) ∧ RS W Z F P e ((o, v) :: (.lst (c.eraseIdx i), .ref a) :: T) σ (upd H a (.lst (us.eraseIdx i))) := by
  obtain ⟨f, ⟨a', us, f', ev, hh, _, hc⟩, _⟩ := r.top
  cases ev
  obtain ⟨v, g1, g2, g3, hv, _, _, _⟩ := ros_eraseIdx hc hi
  refine ⟨us, v, hh, hc.len.symm, hv, ?_⟩
  have r' : RS W Z F P e (([(.lst c, .ref a)] : Ts) ++ T) σ H := r
  refine RS.write (C' := [(o, v), (.lst (c.eraseIdx i), .ref a)]) r' trivial (fun fC hC => ?_) (fun kp fC hC nd => ?_)
  · obtain ⟨a', us', f3, ev', _, e3, _⟩ := ros_one hC
    cases ev'
    rw [e3]; exact List.mem_cons_self
  · obtain ⟨a', us', f3, ev', hh', e3, hcs⟩ := ros_one hC
    cases ev'
    rw [hh] at hh'
    cases hh'
    obtain ⟨v', g1, g2, g3, hv', eg, ho, her⟩ := ros_eraseIdx hcs hi
    rw [hv] at hv'
    cases hv'
    subst e3 eg
    have nd1 := List.nodup_cons.mp nd
    have na : ∀ b ∈ g1 ++ g2 ++ g3, b ≠ a := fun b hb q => nd1.1 (by rw [← q]; exact hb)
    have pp : (g2 ++ (a :: (g1 ++ g3))).Perm (a :: (g1 ++ g2 ++ g3)) := by
      refine List.perm_middle.trans (List.Perm.cons a ?_)
      rw [← List.append_assoc]
      exact List.Perm.append_right _ List.perm_append_comm
    refine ⟨g2 ++ (a :: (g1 ++ g3)), ⟨v, [.ref a], g2, a :: (g1 ++ g3), rfl, rfl, ho.keep kp _ _ _ fun b hb u hu => ?_, ROs.one ⟨a, us.eraseIdx i, g1 ++ g3, rfl, upd_same, rfl, her.keep kp _ _ _ fun b hb u hu => ?_⟩⟩, pp.symm.nodup nd, fun b hb => pp.mem_iff.mp hb⟩
    · rw [upd_ne (na b (List.mem_append_left _ (List.mem_append_right _ hb)))]; exact hu
    · rw [upd_ne (na b ?_)]
      · exact hu
      · rcases List.mem_append.mp hb with q | q
        · exact List.mem_append_left _ (List.mem_append_left _ q)
        · exact List.mem_append_right _ q
theorem dropLast_erase {α : Type} (l : List α) : l.dropLast = l.eraseIdx (l.length - 1) := by
  rw [List.dropLast_eq_take]
  induction l with
  | nil => rfl
  | cons x l ih =>
    cases l with
    | nil => rfl
    | cons y l =>
      show x :: List.take ((y :: l).length - 1) (y :: l) = x :: (y :: l).eraseIdx ((y :: l).length - 1)
      rw [ih]
theorem mPop : MutOk W fPop rPop := by
  intro Z F P e T σ H c os c' z a vs Q hf hl r k
  unfold fPop at hf
  split at hf
  · split at hf
    · rename_i o ho; cases hf
      have : vs = [] := List.length_eq_zero_iff.mp hl.symm
      subst this
      have r1 : RS W Z F P e ((.lst c, .ref a) :: T) σ H := r
      obtain ⟨us, v, hh, hlen, hv, s1, r2⟩ := mPopCore r1 ho
      rw [← hlen, ← dropLast_erase] at s1
      rw [dropLast_erase] at k
      rw [← hlen] at r2 hv
      rw [← dropLast_erase us] at r2
      rw [← hlen] at k
      exact ⟨a, us, v, rfl, rfl, hh, hv, k v Z F _ s1 r2⟩
    · cases hf
  · cases hf
def fPopAt : List O → List O → Option (List O × O)
  | c, [.d (.int i)] => if 0 ≤ i ∧ i < c.length ∧ c.length ≤ sizeLine then match c[i.toNat]? with
    | some o => some (c.eraseIdx i.toNat, o)
    | none => none else none
  | _, _ => none
theorem mPopAt : MutOk W fPopAt rPopAt := by
  intro Z F P e T σ H c os c' z a vs Q hf hl r k
  unfold fPopAt at hf
  split at hf
  · rename_i i
    split at hf
    · rename_i hb
      split at hf
      · rename_i o ho; cases hf
        match vs, hl with
        | [v], _ =>
          have r1 : RS W Z F P e (([(.lst c, .ref a), (.d (.int i), v)] : Ts) ++ T) σ H := r
          have r2 : RS W Z F P e ((.d (.int i), v) :: (.lst c, .ref a) :: T) σ H := r.perm (List.Perm.swap _ _ _)
          have ev : v = .int i := r2.topD
          subst ev
          obtain ⟨us, w, hh, hlen, hv, s1, r3⟩ := mPopCore r2.pop ho
          have hs : (sizeLine : Int) ≤ 2 ^ 62 := by decide
          refine ⟨a, us, i, i.toNat, w, rfl, rfl, hh, by omega, by have := hb.2.2; omega, ?_, hv, k w Z F _ s1 r3⟩
          have h3 : ¬ i < 0 := by omega
          unfold seqIndex?
          rw [hlen]
          simp only [h3, if_false, hb.1, hb.2.1, decide_true, Bool.and_self, if_true]
      · cases hf
    · cases hf
  · cases hf

/-! ### iterators -/
def rangeD (lo : Int) (n : Nat) : List D := (List.range n).map fun (i : Nat) => .int (lo + (i : Int))
theorem rangeD_len {lo : Int} {n : Nat} : (rangeD lo n).length = n := by unfold rangeD; rw [List.length_map, List.length_range]
theorem rangeD_get {lo : Int} {n i : Nat} {d : D} (h : (rangeD lo n)[i]? = some d) : i < n ∧ d = .int (lo + (i : Int)) := by
  have hi : i < n := by
    have := lt_of_get h
    rw [rangeD_len] at this
    exact this
  refine ⟨hi, ?_⟩
  unfold rangeD at h
  rw [List.getElem?_map, List.getElem?_range hi] at h
  exact (Option.some.inj h).symm
theorem itr_ok {lo : Int} {n : Nat} : ItOk W (Itr lo n) [] (rangeD lo n) := by
  intro i Z F P e T σ H r
  refine ⟨fun d hd => ?_, fun hle => by rw [rangeD_len] at hle; exact Nat.le_of_eq hle.symm⟩
  obtain ⟨hi, rfl⟩ := rangeD_get hd
  exact ⟨hi, fun x H' ⟨eH, hx⟩ => by subst eH hx; exact ⟨Z, F, .refl, r.push rfl⟩⟩
/-- the operands of an iterator's making -/
def iOps (d : En → Rs (List Ar)) (f : List O → Option (List D)) : En → Rs (List D) := fun e => (d e).bind fun xs e1 => match gets e1 xs with
  | some os => match f os with
    | some ds => .ok ds e1
    | none => .bad
  | none => .bad
theorem rdOps {d : En → Rs (List Ar)} {f : List O → Option (List D)} {R : It → Hp → Prop} {K : List V → Hp → Prop} (h : rdI W Wo (iOps d f) σ H R)
    (hk : ∀ Z F P e T H1 os vs ds, f os = some ds → Sees W H1 Z os vs → RS W Z F P e T σ H1 → (∀ J, ItOk W J [] ds → R J H1) → K vs H1) : rdVs W Wo d σ H K := by
  obtain ⟨Z, F, P, e, T, r0, k⟩ := h
  refine ⟨Z, F, P, e, T, r0, ?_⟩
  unfold iOps at k
  cases qa : d e with
  | bad => rw [qa] at k; exact k
  | exc c ps e1 => rw [qa] at k; exact k
  | ok xs e1 =>
    rw [qa] at k
    simp only [Rs.bind_ok] at k
    intro vs Z1 F1 H1 hl s1 r1 a1
    cases g : gets e1 xs with
    | none => rw [g] at k; exact k.elim
    | some os =>
      rw [g] at k
      simp only at k
      obtain ⟨ss, r2⟩ := sees_tmps hl r1 a1 g
      cases qf : f os with
      | none => rw [qf] at k; exact k.elim
      | some ds =>
        rw [qf] at k
        exact hk Z1 F1 P e1 T H1 os vs ds qf ss r2 fun J hJ => k Z1 F1 H1 J [] s1 r2 hJ
theorem Sees.three {o p q : O} {vs : List V} (h : Sees W H Z [o, p, q] vs) : ∃ v u w, vs = [v, u, w] ∧ See W H Z o v ∧ See W H Z p u ∧ See W H Z q w := by
  match vs, h with
  | [v, u, w], ⟨h, h', h'', _⟩ => exact ⟨v, u, w, rfl, h, h', h''⟩
def inB (i : Int) : Bool := decide (-(2 ^ 62) ≤ i) && decide (i < 2 ^ 62)
theorem inB_of {i : Int} (h : inB i = true) : -(2 ^ 62) ≤ i ∧ i < 2 ^ 62 := by
  unfold inB at h
  rw [Bool.and_eq_true] at h
  exact ⟨of_decide_eq_true h.1, of_decide_eq_true h.2⟩
def gR1 : List O → Option (List D)
  | [.d (.int j)] => if inB j = true then some (rangeD 0 j.toNat) else none
  | _ => none
theorem hi_range1 {tg a : Expr} {d} {p : Pos} (hg : Gl X "range") (hm : X.mg "range" = none) (ha : HVs X cl Wo [a] d) (hs : starEach [a] X.env = [(false, eval a X.env)] := by rfl) : HI X cl Wo tg (.Call (.Name "range" p) [a] [] pos) (iOps d gR1) :=
  PI.imp (pi_range1 hg hm ha hs) fun σ H R h => rdOps h fun Z F P e T H1 os vs ds hf ss r k => by
    unfold gR1 at hf
    split at hf
    · split at hf
      · rename_i j hb; cases hf
        obtain ⟨v, rfl, s⟩ := ss.one
        obtain ⟨h1, h2⟩ := inB_of hb
        exact ⟨j, by rw [s.int], h1, h2, k _ itr_ok⟩
      · cases hf
    · cases hf
def gR2 : List O → Option (List D)
  | [.d (.int i), .d (.int j)] => if (inB i && inB j) = true then some (rangeD i (j - i).toNat) else none
  | _ => none
theorem hi_range2 {tg a b : Expr} {d} {p : Pos} (hg : Gl X "range") (hm : X.mg "range" = none) (ha : HVs X cl Wo [a, b] d) (hs : starEach [a, b] X.env = [(false, eval a X.env), (false, eval b X.env)] := by rfl) (hs2 : starEach [b] X.env = [(false, eval b X.env)] := by rfl) :
    HI X cl Wo tg (.Call (.Name "range" p) [a, b] [] pos) (iOps d gR2) :=
  PI.imp (pi_range2 hg hm ha hs hs2) fun σ H R h => rdOps h fun Z F P e T H1 os vs ds hf ss r k => by
    unfold gR2 at hf
    split at hf
    · split at hf
      · rename_i i j hb; cases hf
        obtain ⟨v, u, rfl, s, s'⟩ := ss.two
        rw [Bool.and_eq_true] at hb
        obtain ⟨h1, h2⟩ := inB_of hb.1
        obtain ⟨h3, h4⟩ := inB_of hb.2
        exact ⟨i, j, by rw [s.int, s'.int], ⟨h1, h2, h3, h4⟩, k _ itr_ok⟩
      · cases hf
    · cases hf
/-- a range with a step: n turns -/
def stepD (lo c : Int) (n : Nat) : List D := (List.range n).map fun (i : Nat) => .int (lo + (i : Int) * c)
theorem stepD_len {lo c : Int} {n : Nat} : (stepD lo c n).length = n := by unfold stepD; rw [List.length_map, List.length_range]
theorem stepD_get {lo c : Int} {n i : Nat} {d : D} (h : (stepD lo c n)[i]? = some d) : i < n ∧ d = .int (lo + (i : Int) * c) := by
  have hi : i < n := by
    have := lt_of_get h
    rw [stepD_len] at this
    exact this
  refine ⟨hi, ?_⟩
  unfold stepD at h
  rw [List.getElem?_map, List.getElem?_range hi] at h
  exact (Option.some.inj h).symm
theorem itc_ok {lo c : Int} {n : Nat} : ItOk W (Itc lo c n) [] (stepD lo c n) := by
  intro i Z F P e T σ H r
  refine ⟨fun d hd => ?_, fun hle => by rw [stepD_len] at hle; exact Nat.le_of_eq hle.symm⟩
  obtain ⟨hi, rfl⟩ := stepD_get hd
  exact ⟨hi, fun x H' ⟨eH, hx⟩ => by subst eH hx; exact ⟨Z, F, .refl, r.push rfl⟩⟩
def gR3 : List O → Option (List D)
  | [.d (.int i), .d (.int j), .d (.int c)] => if c ≠ 0 ∧ c.natAbs < 1073741824 ∧ Builtin.Range.small i j c = true then some (stepD i c (Builtin.Range.rangeSize i j c).toNat) else none
  | _ => none
end
end MX

/-! MXa: list comprehensions; more iterators. -/
namespace MX
open PySem L2
open PyProof.Rows (envOfC)
def wipeE : En → List Nat → En
  | e, [] => e
  | e, v :: vs => (wipeE e vs).set v .no
section
variable {X : Cx} {cl : Cl} {Wo : WX} {pos : Pos}
variable {W : Wd} {Z F Z' F' : Addr → Prop} {P P' : Nat → V} {e : En} {T : Ts} {σ : L2.St} {H H' : Hp} {Q : VK}
theorem wipeE_len {e : En} : ∀ vs : List Nat, (wipeE e vs).length = e.length
  | [] => rfl
  | v :: vs => by rw [show wipeE e (v :: vs) = (wipeE e vs).set v .no from rfl, List.length_set, wipeE_len vs]
/-- a slot forgotten, its value any -/
theorem REnv.forget : ∀ {e : List (Option O)} {σ : L2.St} {f : List Addr} {i : Nat} (x : Option V), REnv W H Z e σ f → ∃ f1 f2 f3, f = f1 ++ f2 ++ f3 ∧ REnv W H Z (e.set i none) (σ.set i x) (f1 ++ f3)
  | [], σ, f, i, x, h => by
    obtain ⟨es, ef⟩ := h
    subst es ef
    exact ⟨[], [], [], rfl, rfl, rfl⟩
  | none :: e, σ, f, 0, x, ⟨y, r, es, h⟩ => ⟨[], [], f, rfl, by rw [es]; exact ⟨x, r, rfl, h⟩⟩
  | some p :: e, σ, f, 0, x, ⟨v, r, f1, f2, es, ef, h1, h2⟩ => ⟨[], f1, f2, by rw [ef]; rfl, by rw [es]; exact ⟨x, r, rfl, h2⟩⟩
  | none :: e, σ, f, i + 1, x, ⟨y, r, es, h⟩ => by
    obtain ⟨f1, f2, f3, ef, hr⟩ := REnv.forget (i := i) x h
    exact ⟨f1, f2, f3, ef, by rw [es]; exact ⟨y, _, rfl, hr⟩⟩
  | some p :: e, σ, f, i + 1, x, ⟨v, r, f1, f2, es, ef, h1, h2⟩ => by
    obtain ⟨g1, g2, g3, eg, hr⟩ := REnv.forget (i := i) x h2
    refine ⟨f1 ++ g1, g2, g3, by rw [ef, eg]; simp, ?_⟩
    rw [es]
    exact ⟨v, r.set i x, f1, g1 ++ g3, rfl, by simp, h1, hr⟩
theorem RS.forget (r : RS W Z F P e T σ H) (i : Nat) (x : Option V) : RS W Z F P (e.set i .no) T (σ.set i x) H := by
  obtain ⟨⟨fe, ft, h1, h2, nd, hF⟩, sep, zin, fin, pin, px⟩ := r
  obtain ⟨f1, f2, f3, ef, hr⟩ := h1.forget (i := i) x
  have sub : (f1 ++ f3 ++ ft).Sublist (fe ++ ft) := by
    rw [ef]
    refine List.Sublist.append_right ?_ _
    rw [List.append_assoc]
    exact List.Sublist.append_left (List.sublist_append_right _ _) _
  refine ⟨⟨f1 ++ f3, ft, ?_, h2, nd.sublist sub, fun a ha => hF a (sub.subset ha)⟩, sep, zin, fin, fun j t hj hp => ?_, px⟩
  · rw [map_set_cont]; exact hr
  · by_cases ij : i = j
    · subst ij
      rw [List.getElem?_set] at hj
      simp only [if_true] at hj
      split at hj
      · cases hj; cases hp
      · cases hj
    · rw [List.getElem?_set_ne ij] at hj
      rw [List.getElem?_set_ne ij]
      exact pin j t hj hp
theorem RS.wipe (r : RS W Z F P e T σ H) : ∀ vs : List Nat, RS W Z F P (wipeE e vs) T (wipe σ vs) H
  | [] => r
  | v :: vs => (RS.wipe r vs).forget v none
theorem wipe_kps {vs : List Nat} {σ σ' : L2.St} (k : Kps vs σ σ') : L2.wipe σ' vs = L2.wipe σ vs := by
  have gen : ∀ (us : List Nat), (∀ j, j ∉ vs → (L2.wipe σ' us)[j]? = (L2.wipe σ us)[j]?) ∧ (∀ j, j ∈ us → (L2.wipe σ' us)[j]? = (L2.wipe σ us)[j]?) := by
    intro us
    induction us with
    | nil => exact ⟨fun j h => k.2 j h, fun j h => nomatch h⟩
    | cons u us ih =>
      have e1 : L2.wipe σ' (u :: us) = (L2.wipe σ' us).set u none := rfl
      have e2 : L2.wipe σ (u :: us) = (L2.wipe σ us).set u none := rfl
      have hl : (L2.wipe σ' us).length = (L2.wipe σ us).length := by rw [wipe_length, wipe_length, k.1]
      refine ⟨fun j h => ?_, fun j h => ?_⟩
      · rw [e1, e2, List.getElem?_set, List.getElem?_set, hl, ih.1 j h]
      · rw [e1, e2, List.getElem?_set, List.getElem?_set, hl]
        by_cases q : u = j
        · simp [q]
        · simp only [q, if_false]
          rcases List.mem_cons.mp h with z | z
          · exact absurd z.symm q
          · exact ih.2 j z
  refine List.ext_getElem? fun j => ?_
  by_cases h : j ∈ vs
  · exact (gen vs).2 j h
  · exact (gen vs).1 j h
/-- what was forgotten may be anything -/
theorem RS.unwipe {vs : List Nat} {e0 : En} (r : RS W Z F P (wipeE e0 vs) T (L2.wipe σ vs) H) (hl : σ.length = e0.length) : RS W Z F P (wipeE e0 vs) T σ H := by
  have gen : ∀ (us : List Nat) (e : En) (τ : L2.St), (∀ u ∈ us, e[u]? = none ∨ e[u]? = some .no) → RS W Z F P e T (L2.wipe τ us) H → RS W Z F P e T τ H := by
    intro us
    induction us with
    | nil => exact fun e τ _ r => r
    | cons u us ih =>
      intro e τ hu r
      refine ih e τ (fun w hw => hu w (List.mem_cons_of_mem _ hw)) ?_
      have e1 : L2.wipe τ (u :: us) = (L2.wipe τ us).set u none := rfl
      rw [e1] at r
      have r2 := r.forget u ((L2.wipe τ us)[u]?.getD none)
      have e2 : ((L2.wipe τ us).set u none).set u ((L2.wipe τ us)[u]?.getD none) = L2.wipe τ us := by
        rw [List.set_set]
        refine List.ext_getElem? fun j => ?_
        rw [List.getElem?_set]
        by_cases q : u = j
        · subst q
          simp only [if_true]
          split
          · rename_i h
            rw [List.getElem?_eq_getElem h]; rfl
          · rename_i h
            rw [List.getElem?_eq_none (by omega)]
        · simp [q]
      rw [e2] at r2
      have e3 : e.set u .no = e := by
        refine List.ext_getElem? fun j => ?_
        rw [List.getElem?_set]
        by_cases q : u = j
        · subst q
          simp only [if_true]
          rcases hu u List.mem_cons_self with z | z
          · rw [z]
            split
            · rename_i h
              rw [List.getElem?_eq_getElem h] at z
              cases z
            · rfl
          · rw [z]; simp [lt_of_get z]
        · simp [q]
      rw [e3] at r2
      exact r2
  refine gen vs _ σ (fun u hu => ?_) r
  have : ∀ (us : List Nat), u ∈ us → (wipeE e0 us)[u]? = none ∨ (wipeE e0 us)[u]? = some .no := by
    intro us
    induction us with
    | nil => exact fun h => nomatch h
    | cons w us ih =>
      intro h
      rw [show wipeE e0 (w :: us) = (wipeE e0 us).set w .no from rfl, List.getElem?_set]
      by_cases q : w = u
      · simp only [q, if_true]
        split
        · exact .inr rfl
        · exact .inl rfl
      · simp only [q, if_false]
        rcases List.mem_cons.mp h with z | z
        · exact absurd z.symm q
        · exact ih z
  exact this vs hu
theorem wipeE_idem {vs : List Nat} {e : En} : wipeE (wipeE e vs) vs = wipeE e vs := by
  have gen : ∀ us : List Nat, (∀ u ∈ us, u ∈ vs) → wipeE (wipeE e vs) us = wipeE e vs := by
    intro us
    induction us with
    | nil => exact fun _ => rfl
    | cons u us ih =>
      intro hu
      rw [show wipeE (wipeE e vs) (u :: us) = (wipeE (wipeE e vs) us).set u .no from rfl, ih fun w hw => hu w (List.mem_cons_of_mem _ hw)]
      have hm : u ∈ vs := hu u List.mem_cons_self
      have key : ∀ (ws : List Nat), u ∈ ws → (wipeE e ws).set u .no = wipeE e ws := by
        intro ws
        induction ws with
        | nil => exact fun h => nomatch h
        | cons w ws ih2 =>
          intro h
          rw [show wipeE e (w :: ws) = (wipeE e ws).set w .no from rfl]
          by_cases q : w = u
          · rw [q, List.set_set]
          · rcases List.mem_cons.mp h with z | z
            · exact absurd z.symm q
            · rw [List.set_comm _ _ q, ih2 z]
      exact key vs hm
  exact gen vs fun u h => h
/-! ### [elt for target in iter if ..] -/
abbrev Wf : WX := fun _ _ _ _ => False
def HTs (X : Cx) (cl : Cl) (Wo : WX) (ifs : List Expr) (d : En → Rs Bool) : Prop := PTs X ifs (rdT (Cx.wd X cl) Wo d)
def dYes : En → Rs Bool := fun e => .ok true e
theorem PTs.imp {ifs : List Expr} {t t' : TT} (h : PTs X ifs t) (k : ∀ σ H Q, t' σ H Q → t σ H Q) : PTs X ifs t' := ⟨fun pins s σ H Q I q => h.run pins s σ H Q I (k σ H Q q)⟩
theorem hts_nil : HTs X cl Wo [] dYes := PTs.imp pts_nil fun σ H Q h => rdT_ok h
theorem hts_one {c : Expr} {d} (h : HT X cl Wo c d) : HTs X cl Wo [c] d := pts_one h
def lcL (vs : List Nat) (t : Tg) (c : En → Rs Bool) (el : En → Rs O) : List D → List O → En → Rs O
  | [], acc, e => .ok (.lst acc) e
  | d :: ds, acc, e => match t (.d d) e with
    | none => .bad
    | some e1 => match c e1 with
      | .ok true e2 => match el e2 with
        | .ok o e3 => if acc.length < sizeLine then lcL vs t c el ds (acc ++ [o]) (wipeE e3 vs) else .bad
        | _ => .bad
      | .ok false e2 => lcL vs t c el ds acc (wipeE e2 vs)
      | _ => .bad
def dLc (it : En → Rs (List D)) (vs : List Nat) (t : Tg) (c : En → Rs Bool) (el : En → Rs O) : En → Rs O := fun e => (it e).bind fun ds e1 => lcL vs t c el ds [] (wipeE e1 vs)
/-- an item put behind the others -/
theorem RS.app {c : List O} {a : Addr} {o : O} {v : V} (r : RS W Z F P e ((o, v) :: (.lst c, .ref a) :: T) σ H) : ∃ us, H a = some (.lst us) ∧ us.length = c.length ∧ Stp Z F H Z F (upd H a (.lst (us ++ [v]))) ∧ RS W Z F P e ((.lst (c ++ [o]), .ref a) :: T) σ (upd H a (.lst (us ++ [v]))) := by
  have r' : RS W Z F P e (([(.lst c, .ref a), (o, v)] : Ts) ++ T) σ H := r.perm (List.Perm.swap _ _ _)
  obtain ⟨f, ⟨a', us, f', ev, hh, _, hc⟩, _⟩ := r.pop.top
  cases ev
  refine ⟨us, hh, hc.len.symm, ?_⟩
  refine RS.write (C' := [(.lst (c ++ [o]), .ref a)]) (o := .lst (us ++ [v])) r' trivial (fun fC hC => ?_) (fun kp fC hC nd => ?_)
  · obtain ⟨v', rr, f1, f2, ev, ef, ⟨a', us', f3, ev', _, e3, _⟩, _⟩ := hC
    cases ev
    cases ev'
    rw [ef, e3]
    exact List.mem_append_left _ List.mem_cons_self
  · obtain ⟨v', rr, f1, f2, ev, ef, ⟨a', us', f3, ev', hh', e3, hcs⟩, ho⟩ := hC
    cases ev
    cases ev'
    rw [hh] at hh'
    cases hh'
    have ho' := ros_one ho
    subst ef e3
    have nd1 := List.nodup_append.mp nd
    have nd3 := List.nodup_cons.mp nd1.1
    have na : ∀ b ∈ f3, b ≠ a := fun b hb q => nd3.1 (by rw [← q]; exact hb)
    have nb : ∀ b ∈ f2, b ≠ a := fun b hb q => nd1.2.2 a List.mem_cons_self b hb q.symm
    refine ⟨a :: (f3 ++ f2), ⟨_, _, a :: (f3 ++ f2), [], rfl, (List.append_nil _).symm, ⟨a, us ++ [v], f3 ++ f2, rfl, upd_same, rfl, ROs.append (hcs.keep kp _ _ _ fun b hb u hu => by rw [upd_ne (na b hb)]; exact hu) (ROs.one (ho'.keep kp _ _ _ fun b hb u hu => by rw [upd_ne (nb b hb)]; exact hu))⟩, rfl, rfl⟩, nd, fun b hb => hb⟩
theorem RS.elen (r : RS W Z F P e T σ H) : σ.length = e.length := by
  obtain ⟨⟨fe, ft, h1, _⟩, _⟩ := r
  rw [← h1.len, List.length_map]
theorem rdLc {it : En → Rs (List D)} {vs : List Nat} {t : Tg} {c : En → Rs Bool} {el : En → Rs O} (h : rdE W Wo (dLc it vs t c el) σ H Q) :
    tLc (rdI W Wo it) (rdG W vs t) (rdT W Wf c) (rdE W Wf el) vs σ H Q := by
  obtain ⟨Z, F, P, e, T, r0, k⟩ := h
  refine ⟨Z, F, P, e, T, r0, ?_⟩
  unfold dLc at k
  cases qi : it e with
  | bad => rw [qi] at k; exact k
  | exc c ps e1 => rw [qi] at k; exact k
  | ok ds e1 =>
    rw [qi] at k
    simp only [Rs.bind_ok] at k
    intro Z1 F1 H1 J T2 s1 r1 hJ D hD
    have hlen : σ.length = e1.length := r1.elen
    have r2 : RS W Z1 (fun a => F1 a ∨ a = D) P e1 (T2 ++ ((.lst [], .ref D) :: T)) σ (upd H1 D (.lst [])) := by
      have := r1.newL (ds := []) (vs := []) rfl hD
      exact this.perm List.perm_middle.symm
    refine ⟨fun i m H => i + m = ds.length ∧ ∃ Z F e acc, e.length = σ.length ∧ wipeE e vs = e ∧ RS W Z F P e (T2 ++ ((.lst acc, .ref D) :: T)) (L2.wipe σ vs) H ∧ PostE W Wo Z F P T σ H Q (lcL vs t c el (ds.drop i) acc e), ⟨ds.length, Nat.zero_add _, Z1, _, wipeE e1 vs, [], by rw [wipeE_len, hlen], wipeE_idem, r2.wipe vs, ?_⟩, ?_⟩
    · have s2 : Stp Z F H Z1 (fun a => F1 a ∨ a = D) (upd H1 D (.lst [])) := s1.trans (Stp.allocF hD)
      cases q : lcL vs t c el ds [] (wipeE e1 vs) with
      | bad => rw [q] at k; exact k.elim
      | exc c ps e' => rw [List.drop_zero, q]; rw [q] at k; exact XOk.step s2 k
      | ok o e' => rw [List.drop_zero, q]; rw [q] at k; exact fun v Z' F' H' s3 r3 => k v Z' F' H' (s2.trans s3) r3
    · rintro i m H ⟨him, Z, F, e, acc, hel, hwe, r, k⟩
      obtain ⟨hgo, hstop⟩ := hJ i Z F P e ((.lst acc, .ref D) :: T) (L2.wipe σ vs) H r
      by_cases hi : i < ds.length
      · right
        have hd : ds[i]? = some ds[i] := List.getElem?_eq_getElem hi
        rw [List.drop_eq_getElem_cons hi] at k
        unfold lcL at k
        refine ⟨(hgo _ hd).1, fun H' => i + 1 + (m - 1) = ds.length ∧ ∃ Z F e acc, e.length = σ.length ∧ wipeE e vs = e ∧ RS W Z F P e (T2 ++ ((.lst acc, .ref D) :: T)) (L2.wipe σ vs) H' ∧ PostE W Wo Z F P T σ H' Q (lcL vs t c el (ds.drop (i + 1)) acc e), fun H' h => ⟨m - 1, by omega, h⟩, fun x H' hy => ?_⟩
        obtain ⟨Z2, F2, s2, r2⟩ := (hgo _ hd).2 x H' hy
        refine ⟨Z2, F2, P, e, T2 ++ ((.lst acc, .ref D) :: T), .d ds[i], r2, ?_⟩
        cases qt : t (.d ds[i]) e with
        | none => rw [qt] at k; exact k.elim
        | some e2 =>
          rw [qt] at k
          simp only at k ⊢
          intro σ3 Z3 F3 H3 k3 s3 r3
          have hw : L2.wipe σ3 vs = L2.wipe σ vs := (wipe_kps k3).trans (by
            have : ∀ us : List Nat, (∀ u ∈ us, u ∈ vs) → L2.wipe (L2.wipe σ vs) us = L2.wipe σ vs := by
              intro us
              induction us with
              | nil => exact fun _ => rfl
              | cons u us ih =>
                intro hu
                rw [show L2.wipe (L2.wipe σ vs) (u :: us) = (L2.wipe (L2.wipe σ vs) us).set u none from rfl, ih fun w hw => hu w (List.mem_cons_of_mem _ hw)]
                have key : ∀ (ws : List Nat), u ∈ ws → (L2.wipe σ ws).set u none = L2.wipe σ ws := by
                  intro ws
                  induction ws with
                  | nil => exact fun h => nomatch h
                  | cons w ws ih2 =>
                    intro h
                    rw [show L2.wipe σ (w :: ws) = (L2.wipe σ ws).set w none from rfl]
                    by_cases q : w = u
                    · rw [q, List.set_set]
                    · rcases List.mem_cons.mp h with z | z
                      · exact absurd z.symm q
                      · rw [List.set_comm _ _ q, ih2 z]
                exact key vs (hu u List.mem_cons_self)
            exact this vs fun u h => h)
          have hσ3 : σ3.length = σ.length := by rw [k3.1, wipe_length]
          refine ⟨hw, Z3, F3, P, e2, T2 ++ ((.lst acc, .ref D) :: T), r3, ?_⟩
          cases qc : c e2 with
          | bad => rw [qc] at k; exact k.elim
          | exc c ps e' => rw [qc] at k; exact k.elim
          | ok b e3 =>
            rw [qc] at k
            intro Z4 F4 H4 s4 r4
            cases b with
            | false =>
              refine iteF ?_
              simp only at k
              refine ⟨by omega, Z4, F4, wipeE e3 vs, acc, by rw [wipeE_len, ← r4.elen, hσ3], wipeE_idem, ?_, ?_⟩
              · rw [← hw]; exact r4.wipe vs
              · have s5 := (s2.trans s3).trans s4
                cases q : lcL vs t c el (ds.drop (i + 1)) acc (wipeE e3 vs) with
                | bad => rw [q] at k; exact k.elim
                | exc c ps e' => rw [q] at k; exact XOk.step s5 k
                | ok o e' => rw [q] at k; exact fun v Z' F' H' s3 r3 => k v Z' F' H' (s5.trans s3) r3
            | true =>
              refine iteT ⟨Z4, F4, P, e3, T2 ++ ((.lst acc, .ref D) :: T), r4, ?_⟩
              simp only at k
              cases qe : el e3 with
              | bad => rw [qe] at k; exact k.elim
              | exc c ps e' => rw [qe] at k; exact k.elim
              | ok o e4 =>
                rw [qe] at k
                simp only at k
                intro y Z5 F5 H5 s5 r5
                split at k
                · rename_i hz
                  have r6 : RS W Z5 F5 P e4 ((o, y) :: (.lst acc, .ref D) :: (T2 ++ T)) σ3 H5 := r5.perm (List.Perm.cons _ List.perm_middle)
                  obtain ⟨us, hh, hlu, s6, r7⟩ := r6.app
                  refine ⟨us, hh, by rw [hlu]; exact hz, by omega, Z5, F5, wipeE e4 vs, acc ++ [o], by rw [wipeE_len, ← r5.elen, hσ3], wipeE_idem, ?_, ?_⟩
                  · rw [← hw]
                    exact (r7.perm (T' := T2 ++ ((.lst (acc ++ [o]), .ref D) :: T)) List.perm_middle.symm).wipe vs
                  · have s7 := (((s2.trans s3).trans s4).trans s5).trans s6
                    cases q : lcL vs t c el (ds.drop (i + 1)) (acc ++ [o]) (wipeE e4 vs) with
                    | bad => rw [q] at k; exact k.elim
                    | exc c ps e' => rw [q] at k; exact XOk.step s7 k
                    | ok o e' => rw [q] at k; exact fun v Z' F' H' s3 r3 => k v Z' F' H' (s7.trans s3) r3
                · exact k.elim
      · left
        have hge : ds.length ≤ i := Nat.le_of_not_lt hi
        rw [List.drop_of_length_le hge] at k
        refine ⟨hstop (by omega), k (.ref D) Z F H .refl ?_⟩
        have r1 := r.appPop
        rw [← hwe] at r1 ⊢
        exact r1.unwipe hel.symm
theorem he_lc {elt tg iter : Expr} {ifs : List Expr} {scope : Scope} {own : List (Str × Nat)} {di} {t : Tg} {dc} {de}
    (h : PE X (.ListComp elt [⟨tg, iter, ifs, 0⟩] scope pos) (tLc (rdI (Cx.wd X cl) Wo di) (rdG (Cx.wd X cl) (own.map (·.2)) t) (rdT (Cx.wd X cl) Wf dc) (rdE (Cx.wd X cl) Wf de) (own.map (·.2)))) :
    HE X cl Wo (.ListComp elt [⟨tg, iter, ifs, 0⟩] scope pos) (dLc di (own.map (·.2)) t dc de) := PE.imp h fun σ H Q h => rdLc h
/-- y = [..] -/
theorem hs_setLc {i : Nat} {st : Stmt} {own : List (Str × Nat)} {di} {t : Tg} {dc} {de}
    (h : PS X st (tAsg (tLc (rdI (Cx.wd X cl) Wo di) (rdG (Cx.wd X cl) (own.map (·.2)) t) (rdT (Cx.wd X cl) Wf dc) (rdE (Cx.wd X cl) Wf de) (own.map (·.2))) (L2.gName i))) :
    HS X cl Wo st (sAsg (dLc di (own.map (·.2)) t dc de) (tName i)) :=
  PS.imp h fun D σ H h => rdLc (rdE_out h fun Z F P e T o v H1 r k => by
    split at k
    · rename_i e2 q; exact k _ Z F H1 .refl (r.store q)
    · exact k.elim)
/-- a slot that a comprehension's own name shares is laid aside meanwhile -/
def dSave (i : Nat) (d : En → Rs O) : En → Rs O := fun e => match e[i]? with
  | some s => match s.cont with
    | some o => (d (e.set i s.lent)).bind fun r e1 => match e1[i]? with
      | some s1 => match s1.cont with
        | none => .ok r (e1.set i (s1.put o))
        | some _ => .bad
      | none => .bad
    | none => d e
  | none => d e
theorem rd_save {i : Nat} {d : En → Rs O} (h : rdE W Wo (dSave i d) σ H Q) : rdE W Wo d σ H Q := by
  obtain ⟨Z, F, P, e, T, r0, k⟩ := h
  unfold dSave at k
  cases q : e[i]? with
  | none => rw [q] at k; exact ⟨Z, F, P, e, T, r0, k⟩
  | some s =>
    rw [q] at k
    simp only at k
    cases q2 : s.cont with
    | none => rw [q2] at k; exact ⟨Z, F, P, e, T, r0, k⟩
    | some o =>
      rw [q2] at k
      simp only at k
      obtain ⟨v, hv, r1⟩ := r0.lend q q2
      refine ⟨Z, F, P, e.set i s.lent, (o, v) :: T, r1, ?_⟩
      cases qd : d (e.set i s.lent) with
      | bad => rw [qd] at k; exact k
      | exc c ps e1 => rw [qd] at k; exact XOk.popped k
      | ok r e1 =>
        rw [qd] at k
        simp only [Rs.bind_ok] at k
        intro w Z1 F1 H1 s1 r2
        cases q3 : e1[i]? with
        | none => rw [q3] at k; exact k.elim
        | some s1' =>
          rw [q3] at k
          simp only at k
          cases q4 : s1'.cont with
          | some _ => rw [q4] at k; exact k.elim
          | none =>
            rw [q4] at k
            exact k w Z1 F1 H1 s1 (RS.back (r2.perm (List.Perm.swap _ _ _)) q3 q4 hv)
theorem he_save {i : Nat} {ex : Expr} {d : En → Rs O} (h : HE X cl Wo ex d) : HE X cl Wo ex (dSave i d) := PE.imp h fun σ H Q h => rd_save h
end
end MX

/-! MXb: dicts, slices, isinstance. -/
namespace MX
open PySem L2
section
variable {X : Cx} {cl : Cl} {Wo : WX} {pos : Pos}
variable {W : Wd} {Z F Z' F' : Addr → Prop} {P P' : Nat → V} {e : En} {T : Ts} {σ : L2.St} {H H' : Hp} {Q : VK}
/-! ### dicts -/
def keyD : D → Option Key
  | .int i => some (.inl i)
  | .str s => some (.inr s)
  | _ => none
def keyO : O → Option Key
  | .d x => keyD x
  | _ => none
theorem See.key {o : O} {v : V} {k : Key} (h : See W H Z o v) (q : keyO o = some k) : v = kV k := by
  cases o with
  | d x =>
    cases x with
    | int i => cases q; exact h.int
    | str s => cases q; exact h.str
    | _ => cases q
  | _ => cases q
def getK {α : Type} : List Key → List α → Key → Option α
  | k :: ks, x :: xs, q => if k = q then some x else getK ks xs q
  | _, _, _ => none
theorem valV_cons {p : Key × V} {kvs : List (Key × V)} {k : Key} : valV (p :: kvs) k = if p.1 = k then some p.2 else valV kvs k := by
  unfold valV
  rw [List.find?_cons]
  by_cases h : p.1 = k
  · simp [h]
  · simp [h]
theorem getK_ros : ∀ {kvs : List (Key × V)} {os : List O} {f : List Addr} {k : Key}, ROs W H Z os (kvs.map (·.2)) f → match getK (kvs.map (·.1)) os k with
    | some o => ∃ v, valV kvs k = some v ∧ See W H Z o v
    | none => valV kvs k = none
  | [], [], f, k, _ => rfl
  | [], o :: os, f, k, ⟨v, r, f1, f2, e, _⟩ => by cases e
  | p :: kvs, [], f, k, ⟨e, _⟩ => by cases e
  | p :: kvs, o :: os, f, k, ⟨v, r, f1, f2, e, ef, h1, h2⟩ => by
    have e1 : p.2 = v := (List.cons.inj e).1
    have e2 := (List.cons.inj e).2
    subst e1 e2
    rw [valV_cons]
    show match (if p.1 = k then some o else getK (kvs.map (·.1)) os k) with
      | some o => ∃ v, (if p.1 = k then some p.2 else valV kvs k) = some v ∧ See W H Z o v
      | none => (if p.1 = k then some p.2 else valV kvs k) = none
    by_cases h : p.1 = k
    · rw [if_pos h, if_pos h]; exact ⟨p.2, rfl, f1, h1⟩
    · rw [if_neg h, if_neg h]; exact getK_ros h2
/-- a dict's keys and items -/
def O.dk : O → Option (List Key × List O)
  | .dic ks xs => some (ks, xs)
  | .d (.dic ks xs) => some (ks, xs.map .d)
  | _ => none
theorem See.dict {o : O} {v : V} {ks : List Key} {xs : List O} (h : See W H Z o v) (q : o.dk = some (ks, xs)) : ∃ (a : Addr) (kvs : List (Key × V)) (f : List Addr), v = .ref a ∧ Rd H a (.dK kvs) ∧ kvs.map (·.1) = ks ∧ ROs W H Z xs (kvs.map (·.2)) f := by
  obtain ⟨f, h⟩ := h
  cases o with
  | dic ks' xs' =>
    cases q
    obtain ⟨a, kvs, f', e, hh, e1, nd, ef, r⟩ := h
    exact ⟨a, kvs, f', e, .inl hh, e1, r⟩
  | d x =>
    cases x with
    | dic ks' xs' =>
      cases q
      obtain ⟨⟨a, kvs, e, z, hh, e1, nd, r⟩, _⟩ := h
      exact ⟨a, kvs, [], e, hh, e1, r.ros⟩
    | _ => cases q
  | _ => cases q
theorem DGet.rd {a : Addr} {kvs : List (Key × V)} {k : Key} (h : Rd H a (.dK kvs)) : DGet H a (kV k) (valV kvs k) := by
  unfold DGet
  exact .inl ⟨kvs, k, h, rfl, rfl⟩
def fDget : O → O → Option O := fun a b => match a.dk, keyO b with
  | some (ks, xs), some k => match getK ks xs k with
    | some (.d x) => some (.d x)
    | _ => none
  | _, _ => none
theorem bDget : BinOk W fDget (fun x y H Q => ∃ a v, x = .ref a ∧ DGet H a y (some v) ∧ Q v H) := by
  intro Z F P e T σ H a b z v u Q hf sa sb rs k
  unfold fDget at hf
  split at hf
  · rename_i ks xs kk hx hk
    split at hf
    · rename_i x hg; cases hf
      obtain ⟨p, kvs, f, ev, hr, ek, ro⟩ := sa.dict hx
      have := getK_ros (k := kk) ro
      rw [ek, hg] at this
      obtain ⟨w, hw, sw⟩ := this
      refine ⟨p, w, ev, ?_, k w Z F H .refl (rs.push sw.d)⟩
      rw [sb.key hk, ← hw]
      exact DGet.rd hr
    · cases hf
  · cases hf
theorem he_dget {a b : Expr} {da db : En → Rs Ar} (hu : X.A.units + 1 < cLine) (ha : HV X cl Wo a da) (hb : HV X cl Wo b db) (hs : NoSl b) : HE X cl Wo (.Subscript a b pos) (dBin fDget da db) :=
  PE.imp (pe_dget hu ha hb hs) fun σ H Q h => rd2 bDget h
def fDin : O → O → Option O := fun b a => match a.dk, keyO b with
  | some (ks, xs), some k => some (.d (.bl (getK ks xs k).isSome))
  | _, _ => none
def fDnin : O → O → Option O := fun b a => match a.dk, keyO b with
  | some (ks, xs), some k => some (.d (.bl (!(getK ks xs k).isSome)))
  | _, _ => none
theorem dgetAny {p : Addr} {kvs : List (Key × V)} {xs : List O} {f : List Addr} {k : Key} {u : V} (hr : Rd H p (.dK kvs)) (ro : ROs W H Z xs (kvs.map (·.2)) f) (hu : u = kV k) : ∃ o, DGet H p u o ∧ o.isSome = (getK (kvs.map (·.1)) xs k).isSome := by
  have := getK_ros (k := k) ro
  refine ⟨valV kvs k, by rw [hu]; exact DGet.rd hr, ?_⟩
  cases q : getK (kvs.map (·.1)) xs k with
  | none => rw [q] at this; rw [show valV kvs k = none from this]; rfl
  | some o =>
    rw [q] at this
    obtain ⟨w, hw, _⟩ := this
    rw [hw]; rfl
theorem bDin : BinOk W fDin (fun y x H Q => ∃ a o, x = .ref a ∧ DGet H a y o ∧ Q (.bl o.isSome) H) := by
  intro Z F P e T σ H b a z u v Q hf sb sa rs k
  unfold fDin at hf
  split at hf
  · rename_i ks xs kk hx hk; cases hf
    obtain ⟨p, kvs, f, ev, hr, ek, ro⟩ := sa.dict hx
    obtain ⟨o, ho, hs⟩ := dgetAny hr ro (sb.key hk)
    refine ⟨p, o, ev, ho, ?_⟩
    rw [hs, ek]
    exact done_leaf (x := .bl (getK ks xs kk).isSome) rs (fun _ _ => rfl) k
  · cases hf
theorem bDnin : BinOk W fDnin (fun y x H Q => ∃ a o, x = .ref a ∧ DGet H a y o ∧ Q (.bl (!o.isSome)) H) := by
  intro Z F P e T σ H b a z u v Q hf sb sa rs k
  unfold fDnin at hf
  split at hf
  · rename_i ks xs kk hx hk; cases hf
    obtain ⟨p, kvs, f, ev, hr, ek, ro⟩ := sa.dict hx
    obtain ⟨o, ho, hs⟩ := dgetAny hr ro (sb.key hk)
    refine ⟨p, o, ev, ho, ?_⟩
    rw [hs, ek]
    exact done_leaf (x := .bl (!(getK ks xs kk).isSome)) rs (fun _ _ => rfl) k
  · cases hf
theorem he_din {a b : Expr} {da db : En → Rs Ar} (hu : X.A.units + 1 < cLine) (hb : HV X cl Wo b db) (ha : HV X cl Wo a da) (hm : behindInMarks .In a = false := by rfl) : HE X cl Wo (.Compare b [.In] [a] pos) (dBin fDin db da) :=
  PE.imp (pe_cmp (pc_din hu hb ha) hm) fun σ H Q h => rd2 bDin h
theorem ht_din {a b : Expr} {da db : En → Rs Ar} (hu : X.A.units + 1 < cLine) (hb : HV X cl Wo b db) (ha : HV X cl Wo a da) (hm : behindInMarks .In a = false := by rfl) : HT X cl Wo (.Compare b [.In] [a] pos) (dTst (dBin fDin db da)) :=
  PT.imp (pt_cmp (pc_din hu hb ha) hm) fun σ H Q h => rd2 bDin (rdT_of h)
theorem he_dnin {a b : Expr} {da db : En → Rs Ar} (hu : X.A.units + 1 < cLine) (hb : HV X cl Wo b db) (ha : HV X cl Wo a da) (hm : behindInMarks .NotIn a = false := by rfl) : HE X cl Wo (.Compare b [.NotIn] [a] pos) (dBin fDnin db da) :=
  PE.imp (pe_cmp (pc_dnotin hu hb ha) hm) fun σ H Q h => rd2 bDnin h
theorem ht_dnin {a b : Expr} {da db : En → Rs Ar} (hu : X.A.units + 1 < cLine) (hb : HV X cl Wo b db) (ha : HV X cl Wo a da) (hm : behindInMarks .NotIn a = false := by rfl) : HT X cl Wo (.Compare b [.NotIn] [a] pos) (dTst (dBin fDnin db da)) :=
  PT.imp (pt_cmp (pc_dnotin hu hb ha) hm) fun σ H Q h => rd2 bDnin (rdT_of h)
/-- d[k] = v -/
def putKs : List Key → List O → Key → O → List Key × List O
  | k :: ks, x :: xs, q, o => if k = q then (k :: ks, o :: xs) else (k :: (putKs ks xs q o).1, x :: (putKs ks xs q o).2)
  | _, _, q, o => ([q], [o])
theorem putKs_mem : ∀ {ks : List Key} {xs : List O} {q : Key} {o : O} {k : Key}, k ∈ (putKs ks xs q o).1 → k ∈ ks ∨ k = q
  | [], xs, q, o, k, h => by
    have : k ∈ [q] := h
    exact .inr (List.mem_singleton.mp this)
  | k0 :: ks, [], q, o, k, h => by
    have : k ∈ [q] := h
    exact .inr (List.mem_singleton.mp this)
  | k0 :: ks, x :: xs, q, o, k, h => by
    unfold putKs at h
    split at h
    · exact .inl h
    · rcases List.mem_cons.mp h with z | z
      · exact .inl (by rw [z]; exact List.mem_cons_self)
      · exact (putKs_mem z).imp (List.mem_cons_of_mem _) id
theorem putK_rel : ∀ {kvs : List (Key × V)} {os : List O} {f : List Addr} {k : Key} {o : O} {v : V} {g : List Addr}, (kvs.map (·.1)).Nodup → ROs W H Z os (kvs.map (·.2)) f → RO W H Z o v g →
    (putK kvs k v).map (·.1) = (putKs (kvs.map (·.1)) os k o).1 ∧ (putKs (kvs.map (·.1)) os k o).1.Nodup ∧ ∃ f1 f2 f3, f = f1 ++ f2 ++ f3 ∧ ROs W H Z (putKs (kvs.map (·.1)) os k o).2 ((putK kvs k v).map (·.2)) (f1 ++ g ++ f3)
  | [], [], f, k, o, v, g, _, ⟨_, ef⟩, h => by
    subst ef
    refine ⟨rfl, List.nodup_cons.mpr ⟨List.not_mem_nil, List.nodup_nil⟩, [], [], [], rfl, v, [], g, [], rfl, by simp, h, rfl, rfl⟩
  | [], o' :: os, f, k, o, v, g, _, ⟨_, _, _, _, e, _⟩, h => by cases e
  | p :: kvs, [], f, k, o, v, g, _, ⟨e, _⟩, h => by cases e
  | p :: kvs, o' :: os, f, k, o, v, g, nd, ⟨v', r, f1, f2, e, ef, h1, h2⟩, h => by
    have e1 : p.2 = v' := (List.cons.inj e).1
    have e2 := (List.cons.inj e).2
    subst e1 e2 ef
    have nd' := List.nodup_cons.mp nd
    by_cases q : p.1 = k
    · have hn : ∀ kv ∈ kvs, ¬ kv.1 = k := fun kv hk z => nd'.1 (by show p.1 ∈ _; rw [q, ← z]; exact List.mem_map_of_mem hk)
      have em : kvs.map (fun kv => if kv.1 = k then (kv.1, v) else kv) = kvs := by
        conv => rhs; rw [← List.map_id kvs]
        exact List.map_congr_left fun kv hk => by rw [if_neg (hn kv hk)]; rfl
      have ep : putK (p :: kvs) k v = (p.1, v) :: kvs := by
        unfold putK
        rw [if_pos (by rw [List.any_cons]; simp [q]), List.map_cons, if_pos q, em]
      have es : putKs ((p :: kvs).map (·.1)) (o' :: os) k o = (p.1 :: kvs.map (·.1), o :: os) := by
        show (if p.1 = k then _ else _) = _
        rw [if_pos q]
      rw [ep, es]
      exact ⟨rfl, nd, [], f1, f2, rfl, v, _, g, f2, rfl, by simp, h, h2⟩
    · obtain ⟨i1, i2, g1, g2, g3, eg, ir⟩ := putK_rel (k := k) nd'.2 h2 h
      have ep : putK (p :: kvs) k v = p :: putK kvs k v := by
        unfold putK
        rw [List.any_cons]
        simp only [q, decide_false, Bool.false_or, List.map_cons, if_false]
        split
        · rfl
        · rfl
      have es : putKs ((p :: kvs).map (·.1)) (o' :: os) k o = (p.1 :: (putKs (kvs.map (·.1)) os k o).1, o' :: (putKs (kvs.map (·.1)) os k o).2) := by
        show (if p.1 = k then _ else _) = _
        rw [if_neg q]
      rw [ep, es]
      refine ⟨by rw [List.map_cons, i1], List.nodup_cons.mpr ⟨fun z => ?_, i2⟩, f1 ++ g1, g2, g3, by rw [eg]; simp, p.2, _, f1, g1 ++ g ++ g3, rfl, by simp, h1, ir⟩
      rcases putKs_mem z with z | z
      · exact nd'.1 z
      · exact q z
theorem RS.dput {ks : List Key} {xs : List O} {a : Addr} {k : Key} {o : O} {v : V} (r : RS W Z F P e ((.dic ks xs, .ref a) :: (o, v) :: T) σ H) : ∃ kvs : List (Key × V), H a = some (.dK kvs) ∧ kvs.map (·.1) = ks ∧
    Stp Z F H Z F (upd H a (.dK (putK kvs k v))) ∧ RS W Z F P e ((.dic (putKs ks xs k o).1 (putKs ks xs k o).2, .ref a) :: T) σ (upd H a (.dK (putK kvs k v))) := by
  obtain ⟨f, ⟨a', kvs, f', ev, hh, e1, ndk, _, hc⟩, _⟩ := r.top
  cases ev
  refine ⟨kvs, hh, e1, ?_⟩
  have r' : RS W Z F P e (([(.dic ks xs, .ref a), (o, v)] : Ts) ++ T) σ H := r
  refine RS.write (C' := [(.dic (putKs ks xs k o).1 (putKs ks xs k o).2, .ref a)]) (o := .dK (putK kvs k v)) r' trivial (fun fC hC => ?_) (fun kp fC hC nd => ?_)
  · obtain ⟨v', rr, f1, f2, ev, ef, ⟨a', us', f3, ev', _, _, _, e3, _⟩, _⟩ := hC
    cases ev
    cases ev'
    rw [ef, e3]
    exact List.mem_append_left _ List.mem_cons_self
  · obtain ⟨v', rr, f1, f2, ev, ef, ⟨a', us', f3, ev', hh', e1', ndk', e3, hcs⟩, ho⟩ := hC
    cases ev
    cases ev'
    rw [hh] at hh'
    cases hh'
    have ho' := ros_one ho
    subst ef e3 e1
    have nd1 := List.nodup_append.mp nd
    have nd3 := List.nodup_cons.mp nd1.1
    have na : ∀ b ∈ f3, b ≠ a := fun b hb q => nd3.1 (by rw [← q]; exact hb)
    have nb : ∀ b ∈ f2, b ≠ a := fun b hb q => nd1.2.2 a List.mem_cons_self b hb q.symm
    obtain ⟨p1, p2, g1, g2, g3, eg, pr⟩ := putK_rel (k := k) ndk' (hcs.keep kp _ _ _ fun b hb u hu => by rw [upd_ne (na b hb)]; exact hu) (ho'.keep kp _ _ _ fun b hb u hu => by rw [upd_ne (nb b hb)]; exact hu)
    subst eg
    have pp : (a :: (g1 ++ g2 ++ g3) ++ f2).Perm (g2 ++ (a :: (g1 ++ f2 ++ g3))) := by
      refine (List.Perm.trans ?_ List.perm_middle.symm)
      refine List.Perm.cons a ?_
      show ((g1 ++ g2 ++ g3) ++ f2).Perm (g2 ++ (g1 ++ f2 ++ g3))
      simp only [List.append_assoc]
      refine (List.perm_append_comm_assoc g1 g2 _).trans ?_
      exact List.Perm.append_left _ (List.Perm.append_left _ List.perm_append_comm)
    have nd4 := pp.nodup nd
    exact ⟨a :: (g1 ++ f2 ++ g3), ROs.one ⟨a, putK kvs k v, _, rfl, upd_same, p1, p2, rfl, pr⟩, nd4.sublist (List.sublist_append_right _ _), fun b hb => pp.mem_iff.mpr (List.mem_append_right _ hb)⟩
def isDic : Option O → Bool
  | some (.dic _ _) => true
  | _ => false
def sDput (i : Nat) (dv : En → Rs O) (dk : En → Rs Ar) : En → Out := fun e => (dv e).out fun o e1 => match isDic (slot e1 i) with
  | false => .bad
  | true => (dk e1).out fun x e2 => match x.get e2, slot e2 i with
    | some ko, some (.dic ks xs) => match keyO ko with
      | some k => if ks.length < sizeLine then .nx (putS e2 i (.dic (putKs ks xs k o).1 (putKs ks xs k o).2)) else .bad
      | none => .bad
    | _, _ => .bad
theorem hs_dput {i : Nat} {st : Stmt} {dv : En → Rs O} {dk : En → Rs Ar} (h : PS X st (sDPut (tVar i) (rdV (Cx.wd X cl) Wo dk) (rdE (Cx.wd X cl) Wo dv))) : HS X cl Wo st (sDput i dv dk) :=
  PS.imp h fun D σ H h => rdE_out h fun Z F P e T o v H1 r k => by
    cases q0 : isDic (slot e i) with
    | false => rw [q0] at k; exact k.elim
    | true =>
      rw [q0] at k
      simp only at k
      have hd : ∃ ks xs, slot e i = some (.dic ks xs) := by
        unfold isDic at q0
        split at q0
        · exact ⟨_, _, by assumption⟩
        · cases q0
      obtain ⟨ks0, xs0, hd⟩ := hd
      obtain ⟨w, fw, hw, hro, _⟩ := slot_get r.pop hd
      obtain ⟨a, kvs0, f0, ew, _⟩ := hro
      subst ew
      refine ⟨.ref a, hw, Z, F, P, e, (o, v) :: T, r, ?_⟩
      cases qk : dk e with
      | bad => rw [qk] at k; exact k.elim
      | exc c ps e1 => rw [qk] at k; exact XOk.popped (k σ)
      | ok x e2 =>
        rw [qk] at k
        simp only [Rs.out] at k
        intro u Z2 F2 H2 s2 r2 a2
        cases g1 : x.get e2 with
        | none => rw [g1] at k; exact k.elim
        | some ko =>
          cases g2 : slot e2 i with
          | none => rw [g1, g2] at k; exact k.elim
          | some c =>
            rw [g1, g2] at k
            cases c with
            | dic ks xs =>
              simp only at k
              cases g3 : keyO ko with
              | none => rw [g3] at k; exact k.elim
              | some kk =>
                rw [g3] at k
                simp only at k
                split at k
                · rename_i hz
                  obtain ⟨su, r3⟩ := see_tmp r2 a2 g1
                  obtain ⟨s, hs, hc⟩ := slot_some g2
                  obtain ⟨w', hw', r4⟩ := r3.lend hs hc
                  rw [hw] at hw'
                  cases hw'
                  obtain ⟨kvs, hh, ek, s5, r5⟩ := r4.dput (k := kk)
                  refine ⟨a, _, rfl, by rw [su.key g3]; exact DPut.k (k := kk) hh (by rw [← ek, List.length_map] at hz; exact hz), ?_⟩
                  have r6 := RS.back r5 (i := i) (s := s.lent) (get_set_self hs) (by cases s <;> rfl) hw
                  rw [set_set, lent_put hc] at r6
                  have e5 : putS e2 i (.dic (putKs ks xs kk o).1 (putKs ks xs kk o).2) = e2.set i (s.put (.dic (putKs ks xs kk o).1 (putKs ks xs kk o).2)) := by unfold putS; rw [modS_eq hs]
                  rw [e5] at k
                  exact k σ Z2 F2 _ (s2.trans s5) r6
                · exact k.elim
            | _ => exact k.elim
/-! ### slices -/
def POpt (W : Wd) (Wo : WX) (Z F : Addr → Prop) (P : Nat → V) (T : Ts) (σ : L2.St) (H : Hp) (Q : Option Int → Hp → Prop) : Rs (Option Int) → Prop
  | .ok o e => ∀ Z' F' H', Stp Z F H Z' F' H' → RS W Z' F' P e T σ H' → Q o H'
  | .exc c ps e => XOk W Wo Z F P T σ H c ps e
  | .bad => False
def rdO (W : Wd) (Wo : WX) (d : En → Rs (Option Int)) : L2.TO := fun σ H Q => ∃ Z F P e T, RS W Z F P e T σ H ∧ POpt W Wo Z F P T σ H Q (d e)
def HO_ (X : Cx) (cl : Cl) (Wo : WX) (o : Option Expr) (d : En → Rs (Option Int)) : Prop := PO X o (rdO (Cx.wd X cl) Wo d)
theorem PO.imp {o : Option Expr} {t t' : L2.TO} (h : PO X o t) (k : ∀ σ H Q, t' σ H Q → t σ H Q) : PO X o t' := ⟨fun pins s σ H Q I q => h.run pins s σ H Q I (k σ H Q q)⟩
def oNone : En → Rs (Option Int) := fun e => .ok none e
def oSome (d : En → Rs Ar) : En → Rs (Option Int) := fun e => (d e).bind fun x e1 => match x.get e1 with
  | some (.d (.int i)) => .ok (some i) e1
  | _ => .bad
theorem ho_none : HO_ X cl Wo none oNone := PO.imp po_none fun σ H Q ⟨Z, F, P, e, T, r, k⟩ => k Z F H .refl r
theorem ho_some {ex : Expr} {d} (h : HV X cl Wo ex d) : HO_ X cl Wo (some ex) (oSome d) :=
  PO.imp (po_some h) fun σ H Q ⟨Z, F, P, e, T, r, k⟩ => by
    refine ⟨Z, F, P, e, T, r, ?_⟩
    unfold oSome at k
    cases q : d e with
    | bad => rw [q] at k; exact k
    | exc c ps e1 => rw [q] at k; exact k
    | ok x e1 =>
      rw [q] at k
      simp only [Rs.bind_ok] at k
      intro v Z1 F1 H1 s1 r1 a1
      split at k
      · rename_i i g
        obtain ⟨sv, r2⟩ := see_tmp r1 a1 g
        exact ⟨i, sv.int, k Z1 F1 H1 s1 r2⟩
      · exact k.elim
def cutD (xs : List D) (lo hi : Option Int) : List D := (xs.drop (HT.sIx xs.length 0 lo)).take (HT.sIx xs.length xs.length hi - HT.sIx xs.length 0 lo)
theorem RDs.drop : ∀ {ds : List D} {vs : List V} (n : Nat), RDs W H Z ds vs → RDs W H Z (ds.drop n) (vs.drop n)
  | ds, vs, 0, h => h
  | [], vs, n + 1, h => by rw [show vs = [] from h]; exact rfl
  | d :: ds, vs, n + 1, ⟨v, r, e, h1, h2⟩ => by rw [e]; exact RDs.drop n h2
theorem RDs.take : ∀ {ds : List D} {vs : List V} (n : Nat), RDs W H Z ds vs → RDs W H Z (ds.take n) (vs.take n)
  | ds, vs, 0, h => rfl
  | [], vs, n + 1, h => by rw [show vs = [] from h]; exact rfl
  | d :: ds, vs, n + 1, ⟨v, r, e, h1, h2⟩ => by rw [e]; exact ⟨v, r.take n, rfl, h1, RDs.take n h2⟩
theorem RDs.cut {ds : List D} {vs : List V} (h : RDs W H Z ds vs) (lo hi : Option Int) : RDs W H Z (cutD ds lo hi) (cutV vs lo hi) := by
  unfold cutD cutV
  rw [h.len]
  exact (h.drop _).take _
def dSl (f : O → Option Int → Option Int → Option O) (d : En → Rs Ar) (lo hi : En → Rs (Option Int)) : En → Rs O := fun e => (d e).bind fun x e1 => (lo e1).bind fun l e2 => (hi e2).bind fun u e3 => match x.get e3 with
  | some a => fin (f a l u) e3
  | none => .bad
def SlOk (W : Wd) (f : O → Option Int → Option Int → Option O) (r : V → Option Int → Option Int → Hp → VK → Prop) : Prop :=
  ∀ Z F P e T σ H a l u z v Q, f a l u = some z → See W H Z a v → RS W Z F P e T σ H → (∀ w Z' F' H', Stp Z F H Z' F' H' → RS W Z' F' P e ((z, w) :: T) σ H' → Q w H') → r v l u H Q
theorem rdSl {f} {r : V → Option Int → Option Int → Hp → VK → Prop} {d lo hi} (hf : SlOk W f r) (h : rdE W Wo (dSl f d lo hi) σ H Q) : tSl r (rdV W Wo d) (rdO W Wo lo) (rdO W Wo hi) σ H Q := by
  obtain ⟨Z, F, P, e, T, r0, k⟩ := h
  refine ⟨Z, F, P, e, T, r0, ?_⟩
  unfold dSl at k
  cases qa : d e with
  | bad => rw [qa] at k; exact k
  | exc c ps e1 => rw [qa] at k; exact k
  | ok x e1 =>
    rw [qa] at k
    simp only [Rs.bind_ok] at k
    intro v Z1 F1 H1 s1 r1 a1
    refine ⟨Z1, F1, P, e1, x.tmp v ++ T, r1, ?_⟩
    cases ql : lo e1 with
    | bad => rw [ql] at k; exact k
    | exc c ps e' => rw [ql] at k; exact XOk.pops (XOk.step s1 k)
    | ok l e2 =>
      rw [ql] at k
      simp only [Rs.bind_ok] at k
      intro Z2 F2 H2 s2 r2
      refine ⟨Z2, F2, P, e2, x.tmp v ++ T, r2, ?_⟩
      cases qh : hi e2 with
      | bad => rw [qh] at k; exact k
      | exc c ps e' => rw [qh] at k; exact XOk.pops (XOk.step (s1.trans s2) k)
      | ok u e3 =>
        rw [qh] at k
        simp only [Rs.bind_ok] at k
        intro Z3 F3 H3 s3 r3
        cases g : x.get e3 with
        | none => rw [g] at k; exact k.elim
        | some a =>
          rw [g] at k
          obtain ⟨sa, r4⟩ := see_tmp r3 a1 g
          cases qz : f a l u with
          | none => simp only [fin, qz] at k; exact k.elim
          | some z =>
            simp only [fin, qz] at k
            exact hf Z3 F3 P e3 T σ H3 a l u z v Q qz sa r4 fun w Z' F' H' s4 r5 => k w Z' F' H' (((s1.trans s2).trans s3).trans s4) r5
theorem he_slice {ex : Expr} {lo hi : Option Expr} {p2 : Pos} {f r} {d dl dh} (hr : SlR X r) (hf : SlOk (Cx.wd X cl) f r) (he : HV X cl Wo ex d) (hl : HO_ X cl Wo lo dl) (hu : HO_ X cl Wo hi dh) : HE X cl Wo (.Subscript ex (.Slice lo hi none p2) pos) (dSl f d dl dh) :=
  PE.imp (pe_slice hr he hl hu) fun σ H Q h => rdSl hf h
def fSlL : O → Option Int → Option Int → Option O := fun a l u => a.ls.map fun ds => .lst ((cutD ds l u).map .d)
theorem lSlL : SlOk W fSlL (rSlL W.K) := by
  intro Z F P e T σ H a l u z v Q hf sa rs k
  unfold fSlL at hf
  cases q : a.ls with
  | none => rw [q] at hf; cases hf
  | some ds =>
    rw [q] at hf; cases hf
    obtain ⟨p, vs, ev, hq, r⟩ := sa.list q
    exact ⟨p, vs, ev, hq, fun c hc => k _ _ _ _ (Stp.allocF hc) (rs.newL (r.cut l u) hc)⟩
def fSlT : O → Option Int → Option Int → Option O := fun a l u => a.tp.map fun ds => .d (.tup (cutD ds l u))
theorem cutD_all {ds : List D} {l u : Option Int} (h1 : HT.sIx ds.length 0 l = 0) (h2 : HT.sIx ds.length ds.length u = ds.length) : cutD ds l u = ds := by
  unfold cutD
  rw [h1, h2, List.drop_zero, Nat.sub_zero, List.take_length]
theorem lSlT : SlOk W fSlT (rSlN W.K) := by
  intro Z F P e T σ H a l u z v Q hf sa rs k
  unfold fSlT at hf
  cases q : a.tp with
  | none => rw [q] at hf; cases hf
  | some ds =>
    rw [q] at hf; cases hf
    obtain ⟨p, vs, ev, hq, r⟩ := sa.tuple q
    have d1 : RD W H Z (.tup ds) v := by
      cases a with
      | d x =>
        cases x with
        | tup es =>
          have : es = ds := Option.some.inj q
          subst this; exact sa.d
        | _ => cases q
      | _ => cases q
    refine ⟨p, vs, ev, hq, fun hc => ?_, fun _ c o hc ho => k _ _ _ _ (Stp.alloc hc) (rs.newT (r.cut l u) hc ho)⟩
    rw [← r.len] at hc
    have := cutD_all hc.1 hc.2
    simp only [this] at k
    exact k _ _ _ _ .refl (rs.push (by rw [← ev]; exact d1))
/-! ### isinstance -/
/-- the built-in type of a value -/
def D.tyn : D → Option String
  | .non => some "NoneType"
  | .bl _ => some "bool"
  | .int _ => some "int"
  | .str _ => some "str"
  | .tup _ => some "tuple"
  | .lst _ => some "list"
  | .dic _ _ => some "dict"
  | _ => none
theorem SqT.tyx {K : PySem.W.Frag} {a : Addr} {xs : List V} (h : SqT K H a xs) : TyX K H (.ref a) (.type "tuple") := by
  rcases h with (h | ⟨o, h⟩) | ⟨o, its, n, h, hc, _⟩
  · exact .base (.tup h)
  · exact .fTuple h
  · exact .kTuple h hc
theorem SqL.tyx {K : PySem.W.Frag} {a : Addr} {xs : List V} (h : SqL K H a xs) : TyX K H (.ref a) (.type "list") := by
  rcases h with (h | ⟨o, h⟩) | ⟨o, its, n, h, hc, _⟩
  · exact .base (.lst h)
  · exact .base (.frz h)
  · exact .kList h hc
theorem RD.tyx {d : D} {v : V} {n : String} (h : RD W H Z d v) (q : d.tyn = some n) : TyX W.K H v (.type n) := by
  cases d with
  | non => cases q; rw [show v = .non from h]; exact .base .non
  | bl b => cases q; rw [show v = .bl b from h]; exact .base (.bl b)
  | int b => cases q; rw [show v = .int b from h]; exact .base (.int b)
  | str b => cases q; rw [show v = .str b from h]; exact .base (.str b)
  | tup xs => cases q; obtain ⟨a, vs, rfl, hh, _⟩ := h; exact SqT.tyx hh.sq
  | lst xs => cases q; obtain ⟨a, vs, rfl, hh, _⟩ := h; exact SqL.tyx (.inl hh.2)
  | dic ks xs =>
    cases q
    obtain ⟨a, kvs, rfl, _, hh, _⟩ := h
    rcases hh with hh | ⟨o, hh⟩
    · exact .base (.dK hh)
    · exact .fDict hh
  | _ => cases q
/-- isinstance of built-in types -/
def isB (a b : String) : Bool := a == b || (a == "bool" && b == "int")
def tyNames : List String := ["NoneType", "bool", "int", "str", "tuple", "list", "dict"]
theorem isB_ok : (tyNames.all fun a => ["bool", "int", "str", "tuple", "list", "dict"].all fun b => kitB a b == some (isB a b)) = true := by decide +kernel
theorem isB_kit {K : PySem.W.Frag} {a b : String} (ha : a ∈ tyNames) (hb : b ∈ ["bool", "int", "str", "tuple", "list", "dict"]) : PySem.W.kitOne K (.type a) (.type b) = some (isB a b) := by
  have h := List.all_eq_true.mp (List.all_eq_true.mp isB_ok a ha) b hb
  exact kit_ty (beq_iff_eq.mp h)
theorem tyn_mem {d : D} {n : String} (h : d.tyn = some n) : n ∈ tyNames := by
  cases d <;> first
    | (cases h; decide)
    | cases h
def fIsi : O → O → Option O
  | a, .d (.ty b) => match a.fz.tyn with
    | some n => if b ∈ ["bool", "int", "str", "tuple", "list", "dict"] then some (.d (.bl (isB n b))) else none
    | none => none
  | _, _ => none
theorem cIsi : CallOk W (on2 fIsi) (rIsi W.K) := by
  intro Z F P e T σ H os z vs Q hf ss rs k
  obtain ⟨o, p, rfl, hg⟩ := on2_some hf
  clear hf
  obtain ⟨v, u, rfl, s, s'⟩ := ss.two
  unfold fIsi at hg
  split at hg
  · rename_i b
    split at hg
    · rename_i n hn
      split at hg
      · rename_i hb; cases hg
        have eu : u = .ty b := s'.d
        subst eu
        exact ⟨v, .ty b, .type n, .type b, isB n b, rfl, .ty b, s.all.tyx hn, isB_kit (tyn_mem hn) hb, done_leaf (x := .bl (isB n b)) rs (fun _ _ => rfl) k⟩
      · cases hg
    · cases hg
  · cases hg
def fIsiB (bs : List String) (a : O) : Option O := a.fz.tyn.map fun n => .d (.bl (bs.any (isB n)))
theorem kitAny_ok {K : PySem.W.Frag} {n : String} (hn : n ∈ tyNames) : ∀ {bs : List String}, (∀ b ∈ bs, b ∈ ["bool", "int", "str", "tuple", "list", "dict"]) → PySem.W.kitAny K (.type n) (bs.map Value.type) = some (bs.any (isB n))
  | [], _ => kitAny_nil
  | b :: bs, h => by
    rw [List.any_cons, List.map_cons]
    refine kitAny_cons (isB_kit hn (h b List.mem_cons_self)) (fun hz => ?_) (fun hz => ?_)
    · rw [hz, Bool.false_or]; exact kitAny_ok hn fun c hc => h c (List.mem_cons_of_mem _ hc)
    · rw [hz, Bool.true_or]
theorem clsV_tys : ∀ bs : List String, Paired ClsV (bs.map V.ty) (bs.map Value.type)
  | [] => .nil
  | b :: bs => .cons (.ty b) (clsV_tys bs)
/-- isinstance(e, (T1, T2)), built-in types -/
theorem he_isiT {ex : Expr} {da} {bs : List String} {tts : TA} (h : PE X ex (tCB (rIsiT X.K) (tCons (rdV (Cx.wd X cl) Wo da) (tCons (tTup tts) tNil)))) (ht : ∀ (σ : L2.St) (H : Hp) (Q : List V → Hp → Prop), Q (bs.map V.ty) H → tts σ H Q)
    (hb : ∀ b ∈ bs, b ∈ ["bool", "int", "str", "tuple", "list", "dict"] := by decide) (hl : bs.length ≤ sizeLine := by decide) : HE X cl Wo ex (dUn (fIsiB bs) da) :=
  PE.imp h fun σ H Q h => rd1 (r := fun x H1 Q => tts σ H1 fun xs H2 => xs.length ≤ sizeLine ∧ ∀ p, H2 p = none → rIsiT X.K [x, .ref p] (upd H2 p (.tup xs)) Q) (fun Z F P e T σ' H1 a z v Q' hf sa rs k => by
    refine ht _ _ _ ⟨by rw [List.length_map]; exact hl, fun p hp => ?_⟩
    unfold fIsiB at hf
    cases q : a.fz.tyn with
    | none => rw [q] at hf; cases hf
    | some n =>
      rw [q] at hf; cases hf
      have kp : Kp H1 (fun _ => True) (upd H1 p (.tup (bs.map V.ty))) (fun _ => True) := ⟨fun _ h => h, fun a o _ h => same_upd hp a o h, fun a _ h => same_upd hp a _ h, fun a _ _ h => same_upd hp a _ h⟩
      exact ⟨v, p, bs.map V.ty, .type n, bs.map Value.type, bs.any (isB n), rfl, upd_same, clsV_tys bs, ((sa.all).keep kp _ _).tyx q, kitAny_ok (tyn_mem q) hb, k (.bl (bs.any (isB n))) Z F _ (Stp.alloc hp) ((rs.grow (same_upd hp)).push rfl)⟩) h
end
end MX

/-! MXc: iterators over lists and tuples alike: enumerate, zip of two and three, reversed; range with a step. -/
namespace PySem
theorem meets_enumerate_newB1 {v : Value} {o : Obj} {H : Heap → Prop} (B : Begins v o H) :
    Meets (Builtin.«enumerate.__new__» ⟨[.type "enumerate", v], []⟩) (fun _ R s => H s.heap ∧
      R (.ok (.ret (.ref (s.heap.push o).objs.size))) { s with heap := (s.heap.push o).push { cls := .type "enumerate", data := .fields #[.none, .bool false, .ref s.heap.objs.size, rawInt 0, .none, .none] } }) :=
  .of_wp fun prog w A R s h => by
    obtain ⟨hp, g, d, tk, os⟩ := s; obtain ⟨h1, h⟩ := h
    have hsub := sub_enumerate
    have q1 : ∀ {A' : Around} {E : Value → Shared → Prop} {Q : Value → Shared → Prop}, Q (.ref hp.objs.size) ⟨hp.push o, g, d, tk, os⟩ → wpAny (model prog w) A' (pyIter v) Q E ⟨hp, g, d, tk, os⟩ :=
      fun q => B.iter prog w _ _ ⟨hp, g, d, tk, os⟩ _ h1 q
    wp_walk using q1
    refine wpAny_stack_any fun st => wpAny_pure ?_
    split
    · rename_i c _ _ _ _ _
      cases (c == Value.type "enumerate")
      · wp_walk using q1
        exact ⟨_, rfl, h⟩
      · wp_walk using q1
        exact ⟨_, rfl, h⟩
    · wp_walk using q1
      exact ⟨_, rfl, h⟩
section
variable {prog : Program} {w : World} {A : Around} {E : Value → Shared → Prop} {s : Shared}
theorem enum_begins1 {v : Value} {o : Obj} {H : Heap → Prop} {Q : Value → Shared → Prop} (B : Begins v o H) (h1 : H s.heap)
    (h : ∀ h', IsEnum h' (s.heap.objs.size + 1) s.heap.objs.size 0 .none → h'.get? s.heap.objs.size = some o → h'.objs.size = s.heap.objs.size + 2 →
      (∀ b o, s.heap.get? b = some o → h'.get? b = some o) → Q (.ref (s.heap.objs.size + 1)) { s with heap := h' }) :
    wpAny (model prog w) A (call (.type "enumerate") [v]) Q E s := by
  refine callType_new F.called_enumerate (by decide) (F.typeCall_enumerate_1 _) (F.newCall_enumerate_1 _) (fun obj => F.args_object_init_2 obj _) F.entry_enumerate_new
    (meets_enumerate_newB1 B) ⟨h1, ?_⟩
  have hz : (s.heap.push o).objs.size = s.heap.objs.size + 1 := Heap.size_push ..
  show _ ∧ _
  rw [hz]
  have he : IsEnum ((s.heap.push o).push { cls := .type "enumerate", data := .fields #[.none, .bool false, .ref s.heap.objs.size, rawInt 0, .none, .none] }) (s.heap.objs.size + 1) s.heap.objs.size 0 .none := by
    have := Heap.get?_push_size (s.heap.push o) (o := { cls := .type "enumerate", data := .fields #[.none, .bool false, .ref s.heap.objs.size, rawInt 0, .none, .none] }) rfl
    rw [hz] at this; exact this
  refine ⟨⟨_, he, rfl⟩, h _ he (Heap.get?_push_of_some _ (Heap.get?_push_size _ B.free)) (by rw [Heap.size_push, hz]) fun b o x => Heap.get?_push_of_some _ (Heap.get?_push_of_some _ x)⟩
end
end PySem
namespace MX
open PySem L2 PySem.Spec PyProof.Rows
/-! ### sequences: false a list, true a tuple -/
def SqK (K : PySem.W.Frag) : Bool → Hp → Addr → List V → Prop
  | true => SqT K
  | false => SqL K
def SqIt : Bool → Heap → Addr → Addr → Nat → Prop
  | true => fun h it a i => h.IsTupleIter it a i
  | false => fun h it a i => h.IsListIter it a i
def SqO : Bool → Heap → Addr → Array Value → Prop
  | true => fun h a its => h.IsTuple a its
  | false => fun h a its => h.IsList a its
def itObj : Bool → Addr → Obj
  | true => fun a => { cls := .type "tuple_iterator", data := .fields #[.ref a, .int 0 0] }
  | false => fun a => { cls := .type "list_iterator", data := .fields #[.ref a, .int 0 0] }
theorem begins_seq (k : Bool) (a : Addr) (its : Array Value) : Begins (.ref a) (itObj k a) fun h => SqO k h a its := by
  cases k
  · exact begins_list a its
  · exact begins_tuple a its
theorem itObj_at {k : Bool} {h : Heap} {it a : Addr} (e : h.get? it = some (itObj k a)) : SqIt k h it a 0 := by
  cases k
  · exact ⟨_, e, rfl, rfl⟩
  · exact ⟨_, e, rfl, rfl⟩
theorem SqIt.at {k : Bool} {h h' : Heap} {it a : Addr} {i : Nat} (x : SqIt k h it a i) (e : ∀ o, h.get? it = some o → h'.get? it = some o) : SqIt k h' it a i := by
  cases k
  · exact Heap.IsListIter.at x e
  · exact Heap.IsTupleIter.at x e
theorem SqIt.obj {k : Bool} {h : Heap} {it a : Addr} {i : Nat} (x : SqIt k h it a i) : ∃ o, h.get? it = some o ∧ ∀ v, o.data ≠ .cell v := by
  cases k
  · obtain ⟨o, e, _, d⟩ := x
    exact ⟨o, e, fun v q => by rw [d] at q; cases q⟩
  · obtain ⟨o, e, _, d⟩ := x
    exact ⟨o, e, fun v q => by rw [d] at q; cases q⟩
theorem draws_seq {prog : Program} {w : World} {A : Around} (hh : A.handled = none) (k : Bool) (it a : Addr) (hne : a ≠ it) (items : Array Value) :
    Draws prog w A it [it, a] items.size (fun i v => items[i]? = some v) (fun i h => SqIt k h it a i ∧ SqO k h a items) := by
  cases k
  · exact Draws.list hh it a hne items
  · exact Draws.tuple hh it a hne items
section
variable {X : Cx} {pins : List (Addr × Obj)} {σ : L2.St} {H : Hp} {s : Shared}
theorem inv_sq {k : Bool} {a : Addr} {xs : List V} (I : Inv X pins σ H s) (h : SqK X.K k H a xs) : ∃ its : List Value, Vals xs its ∧ SqO k s.heap a its.toArray ∧ a < s.heap.objs.size := by
  cases k
  · obtain ⟨its, rv, p, _⟩ := I.list h
    exact ⟨its, rv, p.isList, p.lt⟩
  · obtain ⟨its, rv, p, _⟩ := I.tuple h
    obtain ⟨o, ho, _⟩ := id p
    exact ⟨its, rv, p, Heap.lt_size ho⟩
theorem inv_sq_inj {k : Bool} {a : Addr} {xs ys : List V} (I : Inv X pins σ H s) (h : SqK X.K k H a xs) (h' : SqK X.K k H a ys) : xs = ys := by
  cases k
  · exact I.list_inj h h'
  · exact I.tuple_inj h h'
end
/-! ### enumerate -/
def ItE (K : PySem.W.Frag) (k : Bool) (a : Addr) : It :=
  ⟨fun i H => ∃ (xs : List V) (x : V), SqK K k H a xs ∧ xs[i]? = some x, fun i H v H' => ∃ T o x, v = .ref T ∧ H T = none ∧ o.dict = none ∧ H' = upd H T (.frz o (.tup [.int (i : Nat), x])) ∧ ∀ xs, SqK K k H a xs → xs[i]? = some x, fun i H => ∃ xs : List V, SqK K k H a xs ∧ xs.length = i⟩
theorem turn_e {P : Program} {w : World} {K : PySem.W.Frag} {elts : List Expr} {kk : Nat} {tpos : Pos} (k : Bool) (a e it : Addr) (hea : e ≠ a) (hia : it ≠ a) :
    Turn P w K (.Tuple elts kk tpos) (ItE K k a) [e, it] e (fun i h => (∃ old, IsEnum h e it ((i : Nat) : Int) old) ∧ SqIt k h it a i ∧ e ≠ it) where
  mem := by simp
  obj := fun i h st b hb => by
    obtain ⟨⟨old, he⟩, hi, _⟩ := st
    have e' : b = e ∨ b = it := by simpa using hb
    rcases e' with z | z
    · rw [z]; exact ⟨_, he, fun v q => nomatch q⟩
    · rw [z]; exact hi.obj
  keep := fun i h h' st k => let ⟨⟨old, he⟩, hi, hne⟩ := st; ⟨⟨old, k e (by simp) _ he⟩, hi.at fun o q => k it (by simp) o q, hne⟩
  item := by
    intro X hP hw hK hc i pins s σ H E I hf st hg
    subst hP hw hK
    obtain ⟨⟨old, he⟩, hit, hne⟩ := st
    obtain ⟨xs, x, hq, hx⟩ := hg
    obtain ⟨its, rv, p, hlt⟩ := inv_sq I hq
    obtain ⟨u, hu, ru⟩ := rv.get hx
    have hel : e < s.heap.objs.size := Heap.lt_size he
    have hil : it < s.heap.objs.size := by obtain ⟨_, q, _⟩ := hit.obj; exact Heap.lt_size q
    have D := draws_seq (prog := X.prog) (w := X.w) (A := X.A.in1) (I.ok.hd hc) k it a (Ne.symm hia) its.toArray
    refine wpAny_pyNext_enum_itemC D he ⟨hit, p⟩ (by rw [List.size_toArray]; exact lt_of_get hu) hne (by simp [hne, hea]) fun x' h' tk hx' ho hst hT hsz hk => ?_
    have hx'' : u = x' := by
      have : its[i]? = some x' := by simpa using hx'
      rw [hu] at this
      exact Option.some.inj this
    subst hx''
    refine ⟨_, rfl, wpAny_letOwnedTupleGo_enum (s := { s with heap := h', toks := tk + 1 }) ho fun h'' he' sb => ?_⟩
    have hT2 : h''.get? s.heap.objs.size = some { cls := .type "tuple", data := .seq #[.int i tk, u] } := (sb.2 _ (Nat.ne_of_gt hel)).trans hT
    have new : ObjOk X.prog X.w (upd H s.heap.objs.size (.frz { cls := .type "tuple", data := .seq #[.int i tk, u] } (.tup [.int (i : Nat), x]))) h'' s.heap.objs.size (.frz { cls := .type "tuple", data := .seq #[.int i tk, u] } (.tup [.int (i : Nat), x])) :=
      ⟨hT2, by show 2 ≤ sizeLine; decide, [.int i tk, u], .cons ⟨_, rfl⟩ (.cons ru .nil), ⟨_, hT2, rfl, _, rfl⟩⟩
    have I1 : Inv X pins σ (upd H s.heap.objs.size (.frz { cls := .type "tuple", data := .seq #[.int i tk, u] } (.tup [.int (i : Nat), x]))) { s with heap := h'', toks := tk + 1 } :=
      I.turnedNew (ch := [e, it]) (fun b ob hb q => (sb.2 b (fun z => hb (by simp [z]))).trans (hk b ob (fun z => hb (by simp [z])) (fun z => hb (by simp [z])) q)) hf (Nat.le_refl _) new
    refine ⟨.ref s.heap.objs.size, _, I1, rfl, ⟨_, _, x, rfl, I.hok.fresh (Nat.le_refl _), rfl, rfl, fun ys hy => by rw [inv_sq_inj I hy hq]; exact hx⟩, ⟨⟨u, ?_⟩, hst.1.at fun o q => (sb.2 it (Ne.symm hne)).trans q, hne⟩, fun b hb => ?_⟩
    · have e1 : ((i + 1 : Nat) : Int) = (i : Int) + 1 := by omega
      rw [e1]; exact he'
    · have hb' : b < s.heap.objs.size := by
        have e' : b = e ∨ b = it := by simpa using hb
        rcases e' with z | z
        · rw [z]; exact hel
        · rw [z]; exact hil
      rw [upd_ne (Nat.ne_of_lt hb')]
      exact (hf b hb).1
  done := by
    intro X hP hw hK hc i pins s σ H E I hf st hg
    subst hP hw hK
    obtain ⟨⟨old, he⟩, hit, hne⟩ := st
    obtain ⟨xs, hq, hx⟩ := hg
    obtain ⟨its, rv, p, hlt⟩ := inv_sq I hq
    obtain ⟨f0, f1, f2, f3, f4, f5⟩ := hf it (by simp)
    have D := draws_seq (prog := X.prog) (w := X.w) (A := X.A.in1) (I.ok.hd hc) k it a (Ne.symm hia) its.toArray
    have hl : i = its.toArray.size := by rw [List.size_toArray, ← rv.length, hx]
    subst hl
    exact wpAny_pyNext_enum_endD D he ⟨hit, p⟩ fun h' eb => ⟨rfl, I.turned (t' := s.toks) (fun b o hb q => eb b o hb q) f0 f1 f3 f4 f5⟩
  self := fun A i s Q E st h => let ⟨⟨_, he⟩, _⟩ := st; wpAny_pyIter_enum he h
def iE (K : PySem.W.Frag) (ta : TA) : TI := fun σ H R => ta σ H fun vs H1 => ∃ k a xs, vs = [.ref a] ∧ SqK K k H1 a xs ∧ R (ItE K k a) H1
theorem pi_e {X : Cx} {e : Expr} {ta : TA} {p pos tpos : Pos} {elts : List Expr} {kk : Nat} (hg : Gl X "enumerate") (hm : X.mg "enumerate" = none) (ha : PA X [e] ta) (hs : starEach [e] X.env = [(false, eval e X.env)] := by rfl) :
    PI X (.Tuple elts kk tpos) (.Call (.Name "enumerate" p) [e] [] pos) (iE X.K ta) := by
  refine ⟨fun pins s σ H R I h => ?_⟩
  refine Call_ (ld_blt I hg hm boot_enumerate (PyProof.Rows.callWith_type1 (thn (ha.run pos pins s σ H _ I h) fun us s1 ⟨vs, H1, I1, r1, q1⟩ => ?_) hs rfl))
  obtain ⟨k, a, xs, ex, hq, q⟩ := q1
  subst ex
  cases r1 with
  | cons r rr =>
    cases rr
    cases r
    obtain ⟨its, rv, p', hlt⟩ := inv_sq I1 hq
    refine enum_begins1 (begins_seq k a its.toArray) p' fun h' he hit hsz hk => wpAny_pyIter_enum he ?_
    have I2 : Inv X pins σ H1 { s1 with heap := h' } := I1.kept (t' := s1.toks) hk
    refine ⟨s1.heap.objs.size + 1, [s1.heap.objs.size + 1, s1.heap.objs.size], _, _, H1, rfl, I2, turn_e k a (s1.heap.objs.size + 1) s1.heap.objs.size (Nat.ne_of_gt (Nat.lt_succ_of_lt hlt)) (Nat.ne_of_gt hlt), ⟨⟨.none, he⟩, itObj_at hit, Nat.succ_ne_self _⟩, fun b hb => ?_, q⟩
    have e' : b = s1.heap.objs.size + 1 ∨ b = s1.heap.objs.size := by simpa using hb
    have hle : s1.heap.objs.size ≤ b := by
      rcases e' with z | z
      · rw [z]; exact Nat.le_add_right _ _
      · rw [z]; exact Nat.le_refl _
    exact I1.fpOk hle (I1.hok.fresh hle)

/-! ### zip of two -/
def ItZ (K : PySem.W.Frag) (k1 k2 : Bool) (a b : Addr) : It :=
  ⟨fun i H => ∃ (xs ys : List V) (x y : V), SqK K k1 H a xs ∧ SqK K k2 H b ys ∧ xs[i]? = some x ∧ ys[i]? = some y,
    fun i H v H' => ∃ T o x y, v = .ref T ∧ H T = none ∧ o.dict = none ∧ H' = upd H T (.frz o (.tup [x, y])) ∧ (∀ xs, SqK K k1 H a xs → xs[i]? = some x) ∧ ∀ ys, SqK K k2 H b ys → ys[i]? = some y,
    fun i H => ∃ xs ys : List V, SqK K k1 H a xs ∧ SqK K k2 H b ys ∧ i = min xs.length ys.length⟩
theorem sep2 {z TI TO i1 i2 a b N : Addr} (ha : a < N) (hb : b < N) (h : z = N + 4 ∧ TI = N + 2 ∧ TO = N + 3 ∧ i1 = N ∧ i2 = N + 1) : ZipSep2 z TI TO i1 i2 [i1, a] [i2, b] := by
  obtain ⟨rfl, rfl, rfl, rfl, rfl⟩ := h
  exact zip_sep2 (fp1 := [a]) (fp2 := [b]) (by simpa using ha) (by simpa using hb)
theorem turn_z {P : Program} {w : World} {K : PySem.W.Frag} {elts : List Expr} {kk : Nat} {tpos : Pos} {a b z TI TO i1 i2 : Addr} (k1 k2 : Bool) (S : ZipSep2 z TI TO i1 i2 [i1, a] [i2, b]) (h1a : a ≠ i1) (h2b : b ≠ i2) :
    Turn P w K (.Tuple elts kk tpos) (ItZ K k1 k2 a b) [z, TI, TO, i1, i2] z (fun i h => IsZip h z TI TO .none ∧ IsTupOf2 h TI (.ref i1) (.ref i2) ∧ (∃ x y, IsTupOf2 h TO x y) ∧ SqIt k1 h i1 a i ∧ SqIt k2 h i2 b i) where
  mem := by simp
  obj := fun i h st c hc => by
    obtain ⟨hz, hTI, ⟨x, y, hTO⟩, h1, h2⟩ := st
    have e' : c = z ∨ c = TI ∨ c = TO ∨ c = i1 ∨ c = i2 := by simpa using hc
    rcases e' with q | q | q | q | q
    · rw [q]; exact ⟨_, hz, fun v q => nomatch q⟩
    · rw [q]; exact ⟨_, hTI, fun v q => nomatch q⟩
    · rw [q]; exact ⟨_, hTO, fun v q => nomatch q⟩
    · rw [q]; exact h1.obj
    · rw [q]; exact h2.obj
  keep := fun i h h' st k => by
    obtain ⟨hz, hTI, ⟨x, y, hTO⟩, h1, h2⟩ := st
    exact ⟨k z (by simp) _ hz, k TI (by simp) _ hTI, ⟨x, y, k TO (by simp) _ hTO⟩, h1.at fun o q => k i1 (by simp) o q, h2.at fun o q => k i2 (by simp) o q⟩
  item := by
    intro X hP hw hK hc i pins s σ H E I hf st hg
    subst hP hw hK
    obtain ⟨hz, hTI, ⟨x0, y0, hTO⟩, h1, h2⟩ := st
    obtain ⟨xs, ys, x, y, hqx, hqy, hx, hy⟩ := hg
    obtain ⟨its, rv, p, _⟩ := inv_sq I hqx
    obtain ⟨its2, rv2, p2, _⟩ := inv_sq I hqy
    obtain ⟨u, hu, ru⟩ := rv.get hx
    obtain ⟨u2, hu2, ru2⟩ := rv2.get hy
    have hzl : z < s.heap.objs.size := Heap.lt_size hz
    have D1 := draws_seq (prog := X.prog) (w := X.w) (A := X.A.in1) (I.ok.hd hc) k1 i1 a h1a its.toArray
    have D2 := draws_seq (prog := X.prog) (w := X.w) (A := X.A.in1) (I.ok.hd hc) k2 i2 b h2b its2.toArray
    refine wpAny_pyNext_zipD2_item S D1 D2 hz hTI hTO ⟨h1, p⟩ ⟨h2, p2⟩ (by rw [List.size_toArray]; exact lt_of_get hu) (by rw [List.size_toArray]; exact lt_of_get hu2) fun x1 x2 h' tk px py z' TO' h1' h2' hT hsz hk => ?_
    have ex : u = x1 := by
      have : its[i]? = some x1 := by simpa using px
      rw [hu] at this
      exact Option.some.inj this
    have ey : u2 = x2 := by
      have : its2[i]? = some x2 := by simpa using py
      rw [hu2] at this
      exact Option.some.inj this
    subst ex ey
    refine ⟨_, rfl, wpAny_letOwnedTupleGo_zip (s := { s with heap := h', toks := tk }) z' fun h'' z'' sb => ?_⟩
    have hT2 : h''.get? s.heap.objs.size = some { cls := .type "tuple", data := .seq #[u, u2] } := (sb.2 _ (Nat.ne_of_gt hzl)).trans hT
    have new : ObjOk X.prog X.w (upd H s.heap.objs.size (.frz { cls := .type "tuple", data := .seq #[u, u2] } (.tup [x, y]))) h'' s.heap.objs.size (.frz { cls := .type "tuple", data := .seq #[u, u2] } (.tup [x, y])) :=
      ⟨hT2, by show 2 ≤ sizeLine; decide, [u, u2], .cons ru (.cons ru2 .nil), ⟨_, hT2, rfl, _, rfl⟩⟩
    have I1 : Inv X pins σ (upd H s.heap.objs.size (.frz { cls := .type "tuple", data := .seq #[u, u2] } (.tup [x, y]))) { s with heap := h'', toks := tk } :=
      I.turnedNew (ch := [z, TI, TO, i1, i2]) (fun c o hb q => (sb.2 c (fun q' => hb (by simp [q']))).trans (hk c o (fun q' => hb (by simp [q'])) (fun q' => hb (by simp [q'])) (fun q' => hb (by simp [q'])) (fun q' => hb (by simp [q'])) q)) hf (Nat.le_refl _) new
    refine ⟨.ref s.heap.objs.size, _, I1, rfl, ⟨_, _, x, y, rfl, I.hok.fresh (Nat.le_refl _), rfl, rfl, fun l hl => by rw [inv_sq_inj I hl hqx]; exact hx, fun l hl => by rw [inv_sq_inj I hl hqy]; exact hy⟩, ⟨z'', ?_, ⟨u, u2, ?_⟩, ?_, ?_⟩, fun c hcm => ?_⟩
    · exact (sb.2 _ S.TIz).trans (hk _ _ S.TIz S.TITO S.TIi1 S.TIi2 hTI)
    · exact (sb.2 _ S.TOz).trans TO'
    · exact h1'.1.at fun o q => (sb.2 _ (Ne.symm S.zi1)).trans q
    · exact h2'.1.at fun o q => (sb.2 _ (Ne.symm S.zi2)).trans q
    · have hlt : c < s.heap.objs.size := by
        have e' : c = z ∨ c = TI ∨ c = TO ∨ c = i1 ∨ c = i2 := by simpa using hcm
        rcases e' with q | q | q | q | q
        · rw [q]; exact hzl
        · rw [q]; exact Heap.lt_size hTI
        · rw [q]; exact Heap.lt_size hTO
        · rw [q]; obtain ⟨_, e1, _⟩ := h1.obj; exact Heap.lt_size e1
        · rw [q]; obtain ⟨_, e2, _⟩ := h2.obj; exact Heap.lt_size e2
      rw [upd_ne (Nat.ne_of_lt hlt)]
      exact (hf c hcm).1
  done := by
    intro X hP hw hK hc i pins s σ H E I hf st hg
    subst hP hw hK
    obtain ⟨hz, hTI, ⟨x0, y0, hTO⟩, h1, h2⟩ := st
    obtain ⟨xs, ys, hqx, hqy, hend⟩ := hg
    obtain ⟨its, rv, p, _⟩ := inv_sq I hqx
    obtain ⟨its2, rv2, p2, _⟩ := inv_sq I hqy
    have D1 := draws_seq (prog := X.prog) (w := X.w) (A := X.A.in1) (I.ok.hd hc) k1 i1 a h1a its.toArray
    have D2 := draws_seq (prog := X.prog) (w := X.w) (A := X.A.in1) (I.ok.hd hc) k2 i2 b h2b its2.toArray
    have l1 := rv.length
    have l2 := rv2.length
    exact wpAny_pyNext_zipD2_end S D1 D2 hz hTI hTO ⟨h1, p⟩ ⟨h2, p2⟩ (by rw [List.size_toArray]; omega) (by rw [List.size_toArray]; omega) (by rw [List.size_toArray, List.size_toArray]; omega) fun h' tk hk => ⟨rfl, I.turnedL (ch := [z, TI, TO, i1, i2]) (fun c o hb q =>
      hk c o (fun q' => hb (by simp [q'])) (fun q' => hb (by simp [q'])) (fun q' => hb (by simp [q'])) (fun q' => hb (by simp [q'])) q) hf⟩
  self := fun A i s Q E st h => wpAny_pyIter_zip st.1 h
def iZ (K : PySem.W.Frag) (ta : TA) : TI := fun σ H R => ta σ H fun vs H1 => ∃ k1 k2 a b xs ys, vs = [.ref a, .ref b] ∧ SqK K k1 H1 a xs ∧ SqK K k2 H1 b ys ∧ R (ItZ K k1 k2 a b) H1
theorem pi_z {X : Cx} {e e2 : Expr} {ta : TA} {p pos tpos : Pos} {elts : List Expr} {kk : Nat} (hg : Gl X "zip") (hm : X.mg "zip" = none) (ha : PA X [e, e2] ta)
    (hs : starEach [e, e2] X.env = (false, eval e X.env) :: starEach [e2] X.env := by rfl) (hpl : (backTo pos (starEach [e2] X.env)).any (·.1) = false := by rfl) :
    PI X (.Tuple elts kk tpos) (.Call (.Name "zip" p) [e, e2] [] pos) (iZ X.K ta) := by
  refine ⟨fun pins s σ H R I h => ?_⟩
  refine Call_ (ld_blt I hg hm PyProof.Rows.boot_zip (PyProof.Rows.callWith_type1 (thn (ha.run pos pins s σ H _ I h) fun us s1 ⟨vs, H1, I1, r1, q1⟩ => ?_) hs hpl))
  obtain ⟨k1, k2, a, b, xs, ys, ex, hqx, hqy, q⟩ := q1
  subst ex
  cases r1 with
  | cons r rr =>
    cases rr with
    | cons r' rr =>
      cases rr
      cases r
      cases r'
      have fresh5 : ∀ c, c ∈ [s1.heap.objs.size + 4, s1.heap.objs.size + 2, s1.heap.objs.size + 3, s1.heap.objs.size, s1.heap.objs.size + 1] → FpOk X pins H1 c := fun c hcm => by
        have e' : c = s1.heap.objs.size + 4 ∨ c = s1.heap.objs.size + 2 ∨ c = s1.heap.objs.size + 3 ∨ c = s1.heap.objs.size ∨ c = s1.heap.objs.size + 1 := by simpa using hcm
        have hle : s1.heap.objs.size ≤ c := by
          rcases e' with z | z | z | z | z
          · rw [z]; exact Nat.le_add_right _ _
          · rw [z]; exact Nat.le_add_right _ _
          · rw [z]; exact Nat.le_add_right _ _
          · rw [z]; exact Nat.le_refl _
          · rw [z]; exact Nat.le_add_right _ _
        exact I1.fpOk hle (I1.hok.fresh hle)
      obtain ⟨its, rv, p1, l1⟩ := inv_sq I1 hqx
      obtain ⟨its2, rv2, p2, l2⟩ := inv_sq I1 hqy
      refine zip_begins2 (begins_seq k1 a its.toArray) (begins_seq k2 b its2.toArray) p1 p2 fun h' hz hTI hTO h1 h2 hsz hk => wpAny_pyIter_zip hz ?_
      have I2 : Inv X pins σ H1 { s1 with heap := h' } := I1.kept (t' := s1.toks) hk
      exact ⟨s1.heap.objs.size + 4, [s1.heap.objs.size + 4, s1.heap.objs.size + 2, s1.heap.objs.size + 3, s1.heap.objs.size, s1.heap.objs.size + 1], _, _, H1, rfl, I2, turn_z k1 k2 (sep2 l1 l2 ⟨rfl, rfl, rfl, rfl, rfl⟩) (Nat.ne_of_lt l1) (Nat.ne_of_lt (Nat.lt_succ_of_lt l2)), ⟨hz, hTI, ⟨_, _, hTO⟩, itObj_at h1, itObj_at h2⟩, fresh5, q⟩
end MX

/-! MXd: unions by type, iterators as denotations, stores into slots, methods that look. -/
namespace MX
open PySem L2
section
variable {X : Cx} {cl : Cl} {Wo : WX} {pos : Pos}
variable {W : Wd} {Z F Z' F' : Addr → Prop} {P P' : Nat → V} {e : En} {T : Ts} {σ : L2.St} {H H' : Hp} {Q : VK}
/-! ### one or the other -/
def dOr {α : Type} (a b : En → Rs α) : En → Rs α := fun e => match a e with
  | .bad => b e
  | r => r
theorem dOr_cases {α : Type} {a b : En → Rs α} {p : Rs α → Prop} (h : p (dOr a b e)) (hb : ¬ p .bad) : p (a e) ∨ p (b e) := by
  unfold dOr at h
  cases q : a e with
  | bad => rw [q] at h; exact .inr h
  | ok x e1 => rw [q] at h; exact .inl h
  | exc c ps e1 => rw [q] at h; exact .inl h
theorem PE.or {ex : Expr} {t u : TE} (h : PE X ex t) (h' : PE X ex u) : PE X ex (fun σ H Q => t σ H Q ∨ u σ H Q) := ⟨fun pins s σ H Q I q => q.elim (h.run pins s σ H Q I) (h'.run pins s σ H Q I)⟩
theorem he_alt {ex : Expr} {a b} (h : HE X cl Wo ex a) (h' : HE X cl Wo ex b) : HE X cl Wo ex (dOr a b) :=
  PE.imp (PE.or h h') fun σ H Q ⟨Z, F, P, e, T, r, k⟩ => (dOr_cases k id).imp (fun k => ⟨Z, F, P, e, T, r, k⟩) (fun k => ⟨Z, F, P, e, T, r, k⟩)
theorem PI.or {tg it : Expr} {t u : TI} (h : PI X tg it t) (h' : PI X tg it u) : PI X tg it (fun σ H R => t σ H R ∨ u σ H R) := ⟨fun pins s σ H R I q => q.elim (h.run pins s σ H R I) (h'.run pins s σ H R I)⟩
theorem hi_alt {tg it : Expr} {a b} (h : HI X cl Wo tg it a) (h' : HI X cl Wo tg it b) : HI X cl Wo tg it (dOr a b) :=
  PI.imp (PI.or h h') fun σ H R ⟨Z, F, P, e, T, r, k⟩ => by
    have : ∀ d : En → Rs (List D), (match d e with
      | .ok ds e' => ∀ Z' F' H' J T2, Stp Z F H Z' F' H' → RS (Cx.wd X cl) Z' F' P e' (T2 ++ T) σ H' → ItOk (Cx.wd X cl) J T2 ds → R J H'
      | .exc c ps e' => XOk (Cx.wd X cl) Wo Z F P T σ H c ps e'
      | .bad => False) → rdI (Cx.wd X cl) Wo d σ H R := fun d k => ⟨Z, F, P, e, T, r, k⟩
    unfold dOr at k
    cases q : a e with
    | bad => rw [q] at k; exact .inr (this b k)
    | ok x e1 => rw [q] at k; exact .inl (this a (by rw [q]; exact k))
    | exc c ps e1 => rw [q] at k; exact .inl (this a (by rw [q]; exact k))
/-! ### made known -/
def dFz (d : En → Rs O) : En → Rs O := fun e => (d e).bind fun o e1 => .ok (.d o.fz) e1
theorem he_fz {ex : Expr} {d} (h : HE X cl Wo ex d) : HE X cl Wo ex (dFz d) :=
  PE.imp h fun σ H Q ⟨Z, F, P, e, T, r, k⟩ => by
    refine ⟨Z, F, P, e, T, r, ?_⟩
    unfold dFz at k
    cases q : d e with
    | bad => rw [q] at k; exact k
    | exc c ps e1 => rw [q] at k; exact k
    | ok o e1 =>
      rw [q] at k
      intro v Z1 F1 H1 s1 r1
      obtain ⟨Z2, F2, s2, r2⟩ := r1.freeze
      exact k v Z2 F2 H1 (s1.trans s2) r2
/-! ### operators of any type -/
def fAdd (a b : O) : Option O := match fAddI a b with
  | some z => some z
  | none => match fAddS a b with
    | some z => some z
    | none => match fCat a b with
      | some z => some z
      | none => fCatT a b
theorem he_add {a b : Expr} {da db} (ha : HV X cl Wo a da) (hb : HV X cl Wo b db) : HE X cl Wo (.BinOp a .Add b pos) (dBin fAdd da db) :=
  he_op (f := fAdd) (OpR.or op_add (OpR.or op_add_str (OpR.or op_catR op_catN))) (BinOk.or bAddI (BinOk.or bAddS (BinOk.or bCat bCatT))) ha hb
def repD (k : Int) (ds : List D) : List D := (List.replicate k.toNat ds).flatten
def fRepL : O → O → Option O
  | .lst os, .d (.int k) => match leafs os with
    | some ds => if -(2 ^ 63) ≤ k ∧ k < 2 ^ 63 ∧ ds.length * k.toNat ≤ sizeLine then some (.lst ((repD k ds).map .d)) else none
    | none => none
  | _, _ => none
theorem RDs.rep {ds : List D} {vs : List V} (h : RDs W H Z ds vs) : ∀ n : Nat, RDs W H Z (List.replicate n ds).flatten (List.replicate n vs).flatten
  | 0 => rfl
  | n + 1 => by
    rw [List.replicate_succ, List.replicate_succ, List.flatten_cons, List.flatten_cons]
    exact h.append (RDs.rep h n)
theorem bRepL : BinOk W fRepL rRep := by
  intro Z F P e T σ H a b z v u Q hf sa sb rs k
  unfold fRepL at hf
  split at hf
  · rename_i os i
    split at hf
    · rename_i ds hl
      split at hf
      · rename_i hb; cases hf
        obtain ⟨f, p, vs, f', ev, hh, ef, ro⟩ := sa
        rw [leafs_eq hl] at ro
        have rd := ro.rds
        exact ⟨p, i, vs, ev, sb.int, hh, hb.1, hb.2.1, by rw [← rd.len]; exact hb.2.2, fun c hc => k _ _ _ _ (Stp.allocF hc) (rs.newL (rd.rep _) hc)⟩
      · cases hf
    · cases hf
  · cases hf
def fRepT : O → O → Option O := fun a b => match a.tp, b with
  | some ds, .d (.int k) => if ds ≠ [] ∧ 2 ≤ k ∧ k ≤ 1000 ∧ ds.length ≤ 1000 then some (.d (.tup (repD k ds))) else none
  | _, _ => none
theorem bRepT : BinOk W fRepT (rRepN W.K) := by
  intro Z F P e T σ H a b z v u Q hf sa sb rs k
  unfold fRepT at hf
  split at hf
  · rename_i ds i hx
    split at hf
    · rename_i hb; cases hf
      obtain ⟨p, vs, e1, h1, r1⟩ := sa.tuple hx
      refine ⟨p, i, vs, e1, sb.int, h1, fun q => hb.1 ?_, hb.2.1, hb.2.2.1, by rw [← r1.len]; exact hb.2.2.2, fun c o hc ho => k _ _ _ _ (Stp.alloc hc) (rs.newT (r1.rep _) hc ho)⟩
      subst q
      exact List.length_eq_zero_iff.mp r1.len
    · cases hf
  · cases hf
def fMul (a b : O) : Option O := match fMulS a b with
  | some z => some z
  | none => match fMulW a b with
    | some z => some z
    | none => match fRepL a b with
      | some z => some z
      | none => fRepT a b
theorem he_mul {a b : Expr} {da db} (ha : HV X cl Wo a da) (hb : HV X cl Wo b db) : HE X cl Wo (.BinOp a .Mult b pos) (dBin fMul da db) :=
  he_op (f := fMul) (OpR.or op_mul (OpR.or op_mulW (OpR.or op_rep op_repN))) (BinOk.or bMulS (BinOk.or bMulW (BinOk.or bRepL bRepT))) ha hb
theorem he_sub {a b : Expr} {da db} (ha : HV X cl Wo a da) (hb : HV X cl Wo b db) : HE X cl Wo (.BinOp a .Sub b pos) (dBin fSub da db) := he_op op_sub bSub ha hb
theorem he_mod {a b : Expr} {da db} (ha : HV X cl Wo a da) (hb : HV X cl Wo b db) : HE X cl Wo (.BinOp a .Mod b pos) (dBin fMod da db) := he_op op_mod bMod ha hb
theorem he_fdiv {a b : Expr} {da db} (ha : HV X cl Wo a da) (hb : HV X cl Wo b db) : HE X cl Wo (.BinOp a .FloorDiv b pos) (dBin fDiv da db) := he_op op_fdivW bDiv ha hb
theorem he_pow {a b : Expr} {da db} (ha : HV X cl Wo a da) (hb : HV X cl Wo b db) : HE X cl Wo (.BinOp a .Pow b pos) (dBin fPow da db) := he_op op_pow bPow ha hb
/-- a subscript -/
theorem ix_dk (hu : X.A.units + 1 < cLine) : IxR X (fun x y H Q => ∃ a v, x = .ref a ∧ DGet H a y (some v) ∧ Q v H) := by
  intro value slice pins s σ H x y v u Q I rx ry h hs
  obtain ⟨a, v', rfl, g, q⟩ := h
  obtain rfl : v = Value.ref a := rx
  exact PyProof.Rows.tail_any (dict_typeIs I g) PySem.F.slot_dict_getitem.lookup (d_getItem hu I g ry fun w' s3 I3 rw' => ⟨v', H, I3, rw', q⟩) hs
def fIx (a b : O) : Option O := match fIxL a b with
  | some z => some z
  | none => match fIxT a b with
    | some z => some z
    | none => match fIxS a b with
      | some z => some z
      | none => fDget a b
theorem he_sbs {a b : Expr} {da db} (hu : X.A.units + 1 < cLine) (ha : HV X cl Wo a da) (hb : HV X cl Wo b db) (hs : PlainIx b) : HE X cl Wo (.Subscript a b pos) (dBin fIx da db) :=
  he_ix (f := fIx) (IxR.or ix_list (IxR.or ix_tup (IxR.or ix_str (ix_dk hu)))) (BinOk.or bIxL (BinOk.or bIxT (BinOk.or bIxS bDget))) ha hb hs
/-- a slice -/
def fSl (a : O) (l u : Option Int) : Option O := match fSlL a l u with
  | some z => some z
  | none => fSlT a l u
theorem SlOk.or {f g : O → Option Int → Option Int → Option O} {r r' : V → Option Int → Option Int → Hp → VK → Prop} (a : SlOk W f r) (b : SlOk W g r') : SlOk W (fun x l u => match f x l u with | some z => some z | none => g x l u) (fun x l u H Q => r x l u H Q ∨ r' x l u H Q) := by
  intro Z F P e T σ H x l u z v Q hf sa rs k
  cases q : f x l u with
  | some w => simp only [q] at hf; exact .inl (a Z F P e T σ H x l u w v Q q sa rs (by rw [Option.some.inj hf]; exact k))
  | none => simp only [q] at hf; exact .inr (b Z F P e T σ H x l u z v Q hf sa rs k)
theorem he_sl {ex : Expr} {lo hi : Option Expr} {p2 : Pos} {d dl dh} (he : HV X cl Wo ex d) (hl : HO_ X cl Wo lo dl) (hu : HO_ X cl Wo hi dh) : HE X cl Wo (.Subscript ex (.Slice lo hi none p2) pos) (dSl fSl d dl dh) :=
  he_slice (f := fSl) (SlR.or sl_list sl_tupN) (SlOk.or lSlL lSlT) he hl hu
/-- in -/
theorem op_in_dk (hu : X.A.units + 1 < cLine) : OpR X (compareOp .In) (fun y x H Q => ∃ a o, x = .ref a ∧ DGet H a y o ∧ Q (.bl o.isSome) H) := by
  intro pins s σ H y x u v Q I ry rx h
  obtain ⟨a, o, rfl, g, q⟩ := h
  obtain rfl : v = Value.ref a := rx
  exact d_in hu I g ry fun s' I' => ⟨.bl o.isSome, H, I', rfl, q⟩
theorem op_notIn_dk (hu : X.A.units + 1 < cLine) : OpR X (compareOp .NotIn) (fun y x H Q => ∃ a o, x = .ref a ∧ DGet H a y o ∧ Q (.bl (!o.isSome)) H) := by
  intro pins s σ H y x u v Q I ry rx h
  obtain ⟨a, o, rfl, g, q⟩ := h
  obtain rfl : v = Value.ref a := rx
  exact d_notIn hu I g ry fun s' I' => ⟨.bl (!o.isSome), H, I', rfl, q⟩
def fInU (a b : O) : Option O := match fIn a b with
  | some z => some z
  | none => fDin a b
def fNinU (a b : O) : Option O := match fNin a b with
  | some z => some z
  | none => fDnin a b
/-! ### stores -/
def O.store (c ko o : O) : Option O := match c with
  | .lst os => match ko with
    | .d (.int k) => (ixN os.length k).map fun j => .lst (os.set j o)
    | _ => none
  | .dic ks xs => match keyO ko with
    | some k => if ks.length < sizeLine then some (.dic (putKs ks xs k o).1 (putKs ks xs k o).2) else none
    | none => none
  | _ => none
theorem PSet.or {t t' : TSet} (h : PSet X t) (h' : PSet X t') : PSet X (fun o i v H Q => t o i v H Q ∨ t' o i v H Q) := by
  intro pins s σ H o i v ov iv u Q I ro ri rv q
  exact q.elim (h pins s σ H o i v ov iv u Q I ro ri rv) (h' pins s σ H o i v ov iv u Q I ro ri rv)
def rSetA : TSet := fun o i v H Q => rSetL o i v H Q ∨ rSetD o i v H Q
theorem set_any (hu : X.A.units + 1 < cLine) : PSet X rSetA := PSet.or set_list (set_dict hu)
theorem RS.lput {os : List O} {a : Addr} {j : Nat} {o : O} {v : V} (r : RS W Z F P e ((.lst os, .ref a) :: (o, v) :: T) σ H) (hj : j < os.length) : ∃ vs : List V, H a = some (.lst vs) ∧ vs.length = os.length ∧
    Stp Z F H Z F (upd H a (.lst (vs.set j v))) ∧ RS W Z F P e ((.lst (os.set j o), .ref a) :: T) σ (upd H a (.lst (vs.set j v))) := by
  obtain ⟨f, ⟨a', vs, f', ev, hh, _, hc⟩, _⟩ := r.top
  cases ev
  refine ⟨vs, hh, hc.len.symm, ?_⟩
  have r' : RS W Z F P e (([(.lst os, .ref a), (o, v)] : Ts) ++ T) σ H := r
  refine RS.write (C' := [(.lst (os.set j o), .ref a)]) (o := .lst (vs.set j v)) r' trivial (fun fC hC => ?_) (fun kp fC hC nd => ?_)
  · obtain ⟨v', rr, f1, f2, ev, ef, ⟨a', us', f3, ev', _, e3, _⟩, _⟩ := hC
    cases ev
    cases ev'
    rw [ef, e3]
    exact List.mem_append_left _ List.mem_cons_self
  · obtain ⟨v', rr, f1, f2, ev, ef, ⟨a', us', f3, ev', hh', e3, hcs⟩, ho⟩ := hC
    cases ev
    cases ev'
    rw [hh] at hh'
    cases hh'
    have ho' := ros_one ho
    subst ef e3
    have nd1 := List.nodup_append.mp nd
    have nd3 := List.nodup_cons.mp nd1.1
    have na : ∀ b ∈ f3, b ≠ a := fun b hb q => nd3.1 (by rw [← q]; exact hb)
    have nb : ∀ b ∈ f2, b ≠ a := fun b hb q => nd1.2.2 a List.mem_cons_self b hb q.symm
    obtain ⟨g1, g2, g3, eg, pr⟩ := ROs.setO (hcs.keep kp _ _ _ fun b hb u hu => by rw [upd_ne (na b hb)]; exact hu) (List.getElem?_eq_getElem hj) (ho'.keep kp _ _ _ fun b hb u hu => by rw [upd_ne (nb b hb)]; exact hu)
    subst eg
    have pp : (a :: (g1 ++ g2 ++ g3) ++ f2).Perm (g2 ++ (a :: (g1 ++ f2 ++ g3))) := by
      refine (List.Perm.trans ?_ List.perm_middle.symm)
      refine List.Perm.cons a ?_
      show ((g1 ++ g2 ++ g3) ++ f2).Perm (g2 ++ (g1 ++ f2 ++ g3))
      simp only [List.append_assoc]
      refine (List.perm_append_comm_assoc g1 g2 _).trans ?_
      exact List.Perm.append_left _ (List.Perm.append_left _ List.perm_append_comm)
    have nd4 := pp.nodup nd
    exact ⟨a :: (g1 ++ f2 ++ g3), ROs.one ⟨a, vs.set j v, _, rfl, upd_same, rfl, pr⟩, nd4.sublist (List.sublist_append_right _ _), fun b hb => pp.mem_iff.mpr (List.mem_append_right _ hb)⟩
/-- a store into a held container -/
theorem RS.stO {c ko o c' : O} {w u v : V} {QQ : Hp → Prop} (r : RS W Z F P e ((c, w) :: (o, v) :: T) σ H) (hs : c.store ko o = some c') (sk : See W H Z ko u)
    (k : ∀ H', Stp Z F H Z F H' → RS W Z F P e ((c', w) :: T) σ H' → QQ H') : rSetA w u v H QQ := by
  unfold O.store at hs
  split at hs
  · rename_i os
    split at hs
    · rename_i i
      cases q : ixN os.length i with
      | none => rw [q] at hs; cases hs
      | some j =>
        rw [q] at hs; cases hs
        obtain ⟨f, ⟨a, vs, f', ev, _⟩, _⟩ := r.top
        subst ev
        obtain ⟨vs, hh, hl, s1, r1⟩ := r.lput (j := j) (ixN_seq q).2.1
        exact .inl ⟨a, vs, i, j, rfl, sk.int, hh, by rw [hl]; exact q, k _ s1 r1⟩
    · cases hs
  · rename_i ks xs
    split at hs
    · rename_i kk hk
      split at hs
      · rename_i hz; cases hs
        obtain ⟨f, ⟨a, kvs, f', ev, _⟩, _⟩ := r.top
        subst ev
        obtain ⟨kvs, hh, ek, s1, r1⟩ := r.dput (k := kk)
        exact .inr ⟨a, _, rfl, by rw [sk.key hk]; exact DPut.k (k := kk) hh (by rw [← ek, List.length_map] at hz; exact hz), k _ s1 r1⟩
      · cases hs
    · cases hs
  · cases hs
/-- x[k] as a target, x a slot -/
def tSub (i : Nat) (dk : En → Rs Ar) : Tg := fun o e => match slot e i with
  | some _ => match dk e with
    | .ok x e2 => match x.get e2, slot e2 i with
      | some ko, some c => match c.store ko o with
        | some c' => some (putS e2 i c')
        | none => none
      | _, _ => none
    | _ => none
  | none => none
theorem hg_sub {i : Nat} {x : Str} {p : Pos} {ss : List Nat} {ke : Expr} {dk : En → Rs Ar} (hu : X.A.units + 1 < cLine) (hx : PE X (.Name x p) (tVar i)) (hk : HV X cl Wo ke dk)
    (ha : ∀ v, assign (.Subscript (.Name x p) ke pos) X.env v = (do
      let ov ← holding [v] (eval (.Name x p) X.env)
      let iv ← holding [v, ov] (eval ke X.env)
      standAt pos
      holding [v, ov, iv] (setItem ov iv v)
      release [v, ov, iv] []) := by intro _; rfl) : HG X cl (.Subscript (.Name x p) ke pos) ss (tSub i dk) :=
  PG.imp (pg_sub hx hk (set_any hu) ha) fun v σ H Q ⟨Z, F, P, e, T, o, r, k⟩ => by
    unfold tSub at k
    cases q0 : slot e i with
    | none => rw [q0] at k; exact k.elim
    | some c0 =>
      rw [q0] at k
      simp only at k
      obtain ⟨w, fw, hw, hro, _⟩ := slot_get r.pop q0
      refine ⟨w, hw, Z, F, P, e, (o, v) :: T, r, ?_⟩
      cases qk : dk e with
      | bad => rw [qk] at k; exact k.elim
      | exc c ps e1 => rw [qk] at k; exact k.elim
      | ok x e2 =>
        rw [qk] at k
        simp only at k
        intro u Z2 F2 H2 s2 r2 a2
        cases g1 : x.get e2 with
        | none => rw [g1] at k; exact k.elim
        | some ko =>
          cases g2 : slot e2 i with
          | none => rw [g1, g2] at k; exact k.elim
          | some c =>
            rw [g1, g2] at k
            simp only at k
            cases g3 : c.store ko o with
            | none => rw [g3] at k; exact k.elim
            | some c' =>
              rw [g3] at k
              simp only at k
              obtain ⟨su, r3⟩ := see_tmp r2 a2 g1
              obtain ⟨s, hs, hc⟩ := slot_some g2
              obtain ⟨w', hw', r4⟩ := r3.lend hs hc
              rw [hw] at hw'
              cases hw'
              refine r4.stO g3 su fun H' s5 r5 => ?_
              have r6 := RS.back r5 (i := i) (s := s.lent) (get_set_self hs) (by cases s <;> rfl) hw
              rw [set_set, lent_put hc] at r6
              have e5 : putS e2 i c' = e2.set i (s.put c') := by unfold putS; rw [modS_eq hs]
              rw [e5] at k
              exact k σ Z2 F2 H' .refl (s2.trans s5) r6
end
end MX

/-! MXe: enumerate, zip, reversed, range with a step, as denotations; list(range), tuple(range). -/
namespace MX
open PySem L2
section
variable {X : Cx} {cl : Cl} {Wo : WX} {pos : Pos}
variable {W : Wd} {Z F Z' F' : Addr → Prop} {P P' : Nat → V} {e : En} {T : Ts} {σ : L2.St} {H H' : Hp} {Q : VK}
theorem hi_range3 {tg a b c : Expr} {d} {p : Pos} (hg : Gl X "range") (hm : X.mg "range" = none) (ha : HVs X cl Wo [a, b, c] d) (hs : starEach [a, b, c] X.env = (false, eval a X.env) :: starEach [b, c] X.env := by rfl) (hpl : (backTo pos (starEach [b, c] X.env)).any (·.1) = false := by rfl) :
    HI X cl Wo tg (.Call (.Name "range" p) [a, b, c] [] pos) (iOps d gR3) :=
  PI.imp (pi_range3 hg hm ha hs hpl) fun σ H R h => rdOps h fun Z F P e T H1 os vs ds hf ss r k => by
    unfold gR3 at hf
    split at hf
    · rename_i i j c
      split at hf
      · rename_i hb; cases hf
        obtain ⟨v, u, w, rfl, s, s', s''⟩ := ss.three
        have h0 : 0 ≤ Builtin.Range.rangeSize i j c := by
          unfold Builtin.Range.rangeSize
          split
          · split
            · have : 0 ≤ (j - i - 1) / c := Int.ediv_nonneg (by omega) (by omega)
              omega
            · omega
          · split
            · have : 0 ≤ (i - j - 1) / (-c) := Int.ediv_nonneg (by omega) (by omega)
              omega
            · omega
        exact ⟨i, j, c, _, by rw [s.int, s'.int, s''.int], ⟨hb.1, hb.2.1, hb.2.2, (Int.toNat_of_nonneg h0).symm⟩, k _ itc_ok⟩
      · cases hf
    · cases hf
/-! ### over made values, all known -/
def seqD : D → Option (List D)
  | .lst ds => some ds
  | .tup ds => some ds
  | _ => none
def kindD : D → Bool
  | .tup _ => true
  | _ => false
theorem RD.seqD {d : D} {v : V} {ds : List D} (h : RD W H Z d v) (q : seqD d = some ds) : ∃ a vs, v = .ref a ∧ SqK W.K (kindD d) H a vs ∧ RDs W H Z ds vs := by
  cases d with
  | lst es =>
    have : es = ds := Option.some.inj q
    subst this
    obtain ⟨a, vs, e, hh, r⟩ := h
    exact ⟨a, vs, e, .inl hh.2, r⟩
  | tup es =>
    have : es = ds := Option.some.inj q
    subst this
    obtain ⟨a, vs, e, hh, r⟩ := h
    exact ⟨a, vs, e, hh.sq, r⟩
  | _ => cases q
def iAr (d : En → Rs (List O)) (f : List D → Option (List D)) : En → Rs (List D) := fun e => (d e).bind fun os e1 => match f (fzs os) with
  | some ds => .ok ds e1
  | none => .bad
theorem RS.freezeT {os : List O} {vs : List V} (hl : os.length = vs.length) (r : RS W Z F P e (os.zip vs ++ T) σ H) : ∃ Z' F', Stp Z F H Z' F' H ∧ RS W Z' F' P e (((fzs os).map O.d).zip vs ++ T) σ H ∧ RDs W H Z' (fzs os) vs := by
  obtain ⟨Z', F', s, r1, rd⟩ := r.freezeAll hl
  exact ⟨Z', F', s, ros_leaf rd r1, rd⟩
theorem rdAr {d : En → Rs (List O)} {f : List D → Option (List D)} {R : It → Hp → Prop} {K : List V → Hp → Prop} (h : rdI W Wo (iAr d f) σ H R)
    (hk : ∀ Z F P e T H1 es vs ds, f es = some ds → RDs W H1 Z es vs → RS W Z F P e ((es.map O.d).zip vs ++ T) σ H1 → (∀ J, ItOk W J ((es.map O.d).zip vs) ds → R J H1) → K vs H1) : rdA W Wo d σ H K := by
  obtain ⟨Z, F, P, e, T, r0, k⟩ := h
  refine ⟨Z, F, P, e, T, r0, ?_⟩
  unfold iAr at k
  cases qa : d e with
  | bad => rw [qa] at k; exact k
  | exc c ps e1 => rw [qa] at k; exact k
  | ok os e1 =>
    rw [qa] at k
    simp only [Rs.bind_ok] at k
    intro vs Z1 F1 H1 hl s1 r1
    cases qf : f (fzs os) with
    | none => rw [qf] at k; exact k.elim
    | some ds =>
      rw [qf] at k
      obtain ⟨Z2, F2, s2, r2, rd⟩ := r1.freezeT hl
      exact hk Z2 F2 P e1 T H1 (fzs os) vs ds qf rd r2 fun J hJ => k Z2 F2 H1 J _ (s1.trans s2) r2 hJ
/-- what is held of a leaf stands at each turn -/
theorem RS.topDs : ∀ {es : List D} {vs : List V} {T : Ts}, es.length = vs.length → RS W Z F P e ((es.map O.d).zip vs ++ T) σ H → RDs W H Z es vs
  | [], [], _, _, _ => rfl
  | [], _ :: _, _, h, _ => by cases h
  | _ :: _, [], _, h, _ => by cases h
  | x :: es, v :: vs, T, h, r => by
    have r' : RS W Z F P e ((.d x, v) :: ((es.map O.d).zip vs ++ T)) σ H := r
    exact ⟨v, vs, rfl, r'.topD, RS.topDs (Nat.succ.inj h) r'.pop⟩
/-! ### enumerate -/
def enumL : Nat → List D → List D
  | _, [] => []
  | n, d :: ds => .tup [.int (n : Int), d] :: enumL (n + 1) ds
theorem enumL_len : ∀ {n : Nat} {ds : List D}, (enumL n ds).length = ds.length
  | _, [] => rfl
  | n, d :: ds => by show (enumL (n + 1) ds).length + 1 = ds.length + 1; rw [enumL_len]
theorem enumL_get : ∀ {n : Nat} {ds : List D} {i : Nat} {d : D}, (enumL n ds)[i]? = some d → ∃ x, ds[i]? = some x ∧ d = .tup [.int ((n + i : Nat) : Int), x]
  | _, [], _, _, h => by simp [enumL] at h
  | n, x :: ds, 0, d, h => ⟨x, rfl, (Option.some.inj h).symm⟩
  | n, x :: ds, i + 1, d, h => by
    obtain ⟨y, h1, h2⟩ := enumL_get (n := n + 1) (ds := ds) (i := i) (d := d) h
    exact ⟨y, h1, by rw [h2, show n + 1 + i = n + (i + 1) by omega]⟩
def gEnum : List D → Option (List D)
  | [d] => (seqD d).map (enumL 0)
  | _ => none
theorem ite_ok {d : D} {a : Addr} {v : V} {ds : List D} (hv : v = .ref a) (hd : seqD d = some ds) : ItOk W (ItE W.K (kindD d) a) [(.d d, v)] (enumL 0 ds) := by
  intro i Z F P e T σ H r
  have r' : RS W Z F P e ((.d d, v) :: T) σ H := r
  obtain ⟨a', vs, ev, hq, rd⟩ := r'.topD.seqD hd
  rw [hv] at ev
  cases ev
  refine ⟨fun x hx => ?_, fun hle => ⟨vs, hq, by rw [hle, enumL_len, rd.len]⟩⟩
  obtain ⟨y, hy, rfl⟩ := enumL_get hx
  obtain ⟨w, hw, rw'⟩ := rd.get hy
  refine ⟨⟨vs, w, hq, hw⟩, fun x H' ⟨T', o', x', e1, e2, e0', e3, e4⟩ => ?_⟩
  have := e4 vs hq
  rw [hw] at this
  cases this
  subst e1 e3
  have e0 : ((0 + i : Nat) : Int) = (i : Int) := by simp
  rw [e0]
  exact ⟨Z, F, Stp.alloc e2, r.newT (ds := [.int (i : Int), y]) (vs := [.int (i : Int), w]) ⟨_, _, rfl, rfl, _, _, rfl, rw', rfl⟩ e2 e0'⟩
theorem hi_enum {a : Expr} {d} {p tpos : Pos} {elts : List Expr} {kk : Nat} (hg : Gl X "enumerate") (hm : X.mg "enumerate" = none) (ha : HA X cl Wo [a] d) (hs : starEach [a] X.env = [(false, eval a X.env)] := by rfl) :
    HI X cl Wo (.Tuple elts kk tpos) (.Call (.Name "enumerate" p) [a] [] pos) (iAr d gEnum) :=
  PI.imp (pi_e hg hm ha hs) fun σ H R h => rdAr h fun Z F P e T H1 es vs ds hf rd r k => by
    unfold gEnum at hf
    split at hf
    · rename_i d
      cases q : seqD d with
      | none => rw [q] at hf; cases hf
      | some ds0 =>
        rw [q] at hf; cases hf
        obtain ⟨v, rr, ev, h1, e2⟩ := rd
        have e2' : rr = [] := e2
        subst e2' ev
        obtain ⟨a, us, e3, hq, _⟩ := h1.seqD q
        exact ⟨kindD d, a, us, by rw [e3], hq, k _ (ite_ok e3 q)⟩
    · cases hf
/-! ### zip -/
def zipL : List D → List D → List D
  | a :: as, b :: bs => .tup [a, b] :: zipL as bs
  | _, _ => []
theorem zipL_len : ∀ {as bs : List D}, (zipL as bs).length = min as.length bs.length
  | [], bs => by simp [zipL]
  | a :: as, [] => by simp [zipL]
  | a :: as, b :: bs => by show (zipL as bs).length + 1 = min (as.length + 1) (bs.length + 1); rw [zipL_len]; omega
theorem zipL_get : ∀ {as bs : List D} {i : Nat} {d : D}, (zipL as bs)[i]? = some d → ∃ x y, as[i]? = some x ∧ bs[i]? = some y ∧ d = .tup [x, y]
  | [], bs, _, _, h => by simp [zipL] at h
  | a :: as, [], _, _, h => by simp [zipL] at h
  | a :: as, b :: bs, 0, d, h => ⟨a, b, rfl, rfl, (Option.some.inj h).symm⟩
  | a :: as, b :: bs, i + 1, d, h => zipL_get (as := as) (bs := bs) (i := i) h
def gZip : List D → Option (List D)
  | [d1, d2] => match seqD d1, seqD d2 with
    | some as, some bs => some (zipL as bs)
    | _, _ => none
  | _ => none
theorem itz_ok {d1 d2 : D} {a b : Addr} {as bs : List D} (h1 : seqD d1 = some as) (h2 : seqD d2 = some bs) : ItOk W (ItZ W.K (kindD d1) (kindD d2) a b) [(.d d1, .ref a), (.d d2, .ref b)] (zipL as bs) := by
  intro i Z F P e T σ H r
  have r' : RS W Z F P e ((.d d1, .ref a) :: (.d d2, .ref b) :: T) σ H := r
  obtain ⟨a', vs, ev, hq, rd⟩ := r'.topD.seqD h1
  cases ev
  obtain ⟨b', us, ev, hq2, rd2⟩ := r'.pop.topD.seqD h2
  cases ev
  refine ⟨fun x hx => ?_, fun hle => ⟨vs, us, hq, hq2, by rw [hle, zipL_len, rd.len, rd2.len]⟩⟩
  obtain ⟨y, z, hy, hz, rfl⟩ := zipL_get hx
  obtain ⟨w, hw, rw'⟩ := rd.get hy
  obtain ⟨w2, hw2, rw2⟩ := rd2.get hz
  refine ⟨⟨vs, us, w, w2, hq, hq2, hw, hw2⟩, fun x H' ⟨T', o', x', y', e1, e2, e0', e3, e4, e5⟩ => ?_⟩
  have := e4 vs hq
  rw [hw] at this
  cases this
  have := e5 us hq2
  rw [hw2] at this
  cases this
  subst e1 e3
  exact ⟨Z, F, Stp.alloc e2, r.newT (ds := [y, z]) (vs := [w, w2]) ⟨_, _, rfl, rw', _, _, rfl, rw2, rfl⟩ e2 e0'⟩
theorem hi_zip {a b : Expr} {d} {p tpos : Pos} {elts : List Expr} {kk : Nat} (hg : Gl X "zip") (hm : X.mg "zip" = none) (ha : HA X cl Wo [a, b] d)
    (hs : starEach [a, b] X.env = (false, eval a X.env) :: starEach [b] X.env := by rfl) (hpl : (backTo pos (starEach [b] X.env)).any (·.1) = false := by rfl) :
    HI X cl Wo (.Tuple elts kk tpos) (.Call (.Name "zip" p) [a, b] [] pos) (iAr d gZip) :=
  PI.imp (pi_z hg hm ha hs hpl) fun σ H R h => rdAr h fun Z F P e T H1 es vs ds hf rd r k => by
    unfold gZip at hf
    split at hf
    · rename_i d1 d2
      split at hf
      · rename_i as bs q1 q2; cases hf
        obtain ⟨v, rr, ev, h1, v2, rr2, ev2, h2, e2⟩ := rd
        have e2' : rr2 = [] := e2
        subst e2' ev2 ev
        obtain ⟨a, us, e3, hq, _⟩ := h1.seqD q1
        obtain ⟨b, us2, e4, hq2, _⟩ := h2.seqD q2
        subst e3 e4
        exact ⟨kindD d1, kindD d2, a, b, us, us2, rfl, hq, hq2, k _ (itz_ok q1 q2)⟩
      · cases hf
    · cases hf
/-! ### reversed -/
def iRev (d : En → Rs O) : En → Rs (List D) := fun e => (d e).bind fun o e1 => match seqD o.fz with
  | some ds => .ok ds.reverse e1
  | none => .bad
theorem rev_get {α : Type} {ds : List α} {i : Nat} {d : α} (h : ds.reverse[i]? = some d) : i < ds.length ∧ ds[ds.length - 1 - i]? = some d := by
  have hi : i < ds.length := by have := lt_of_get h; rw [List.length_reverse] at this; exact this
  rw [List.getElem?_reverse hi] at h
  exact ⟨hi, h⟩
theorem itv_ok {d : D} {a : Addr} {v : V} {ds : List D} {vs : List V} (hv : v = .ref a) (hd : seqD d = some ds) (hl : vs.length = ds.length) : (kindD d = false → ItOk W (Itv W.K a vs.length) [(.d d, v)] ds.reverse) ∧ (kindD d = true → ItOk W (RT.ItvT W.K a vs.length) [(.d d, v)] ds.reverse) := by
  refine ⟨fun hk i Z F P e T σ H r => ?_, fun hk i Z F P e T σ H r => ?_⟩
  all_goals
    have r' : RS W Z F P e ((.d d, v) :: T) σ H := r
    obtain ⟨a', us, ev, hq, rd⟩ := r'.topD.seqD hd
    rw [hv] at ev
    cases ev
    rw [hk] at hq
    refine ⟨fun x hx => ?_, fun hle => ?_⟩
    · obtain ⟨hi, hx⟩ := rev_get hx
      obtain ⟨w, hw, rw'⟩ := rd.get hx
      refine ⟨⟨by rw [hl]; exact hi, us, w, hq, by rw [hl]; exact hw⟩, fun x H' ⟨eH, hx'⟩ => ?_⟩
      subst eH
      have := hx' us hq
      rw [hl, hw] at this
      cases this
      exact ⟨Z, F, .refl, r.push rw'⟩
    · show vs.length ≤ i
      rw [hle, List.length_reverse, hl]
      exact Nat.le_refl _
theorem hi_rev {tg a : Expr} {d} {p : Pos} (hg : Gl X "reversed") (hm : X.mg "reversed" = none) (ha : HE X cl Wo a d) (hs : starEach [a] X.env = (false, eval a X.env) :: starEach [] X.env := by rfl) :
    HI X cl Wo tg (.Call (.Name "reversed" p) [a] [] pos) (iRev d) :=
  PI.imp (RT.pi_revA hg hm ha hs) fun σ H R ⟨Z, F, P, e, T, r0, k⟩ => by
    refine ⟨Z, F, P, e, T, r0, ?_⟩
    unfold iRev at k
    cases q : d e with
    | bad => rw [q] at k; exact k
    | exc c ps e1 => rw [q] at k; exact k
    | ok o e1 =>
      rw [q] at k
      simp only [Rs.bind_ok] at k
      intro v Z1 F1 H1 s1 r1
      cases q2 : seqD o.fz with
      | none => rw [q2] at k; exact k.elim
      | some ds =>
        rw [q2] at k
        obtain ⟨Z2, F2, s2, r2⟩ := r1.freeze
        obtain ⟨a, vs, ev, hq, rd⟩ := r2.topD.seqD q2
        have hl := rd.len
        refine ⟨a, vs, ev, ?_⟩
        cases hk : kindD o.fz with
        | false => rw [hk] at hq; exact .inl ⟨hq, k Z2 F2 H1 _ [(.d o.fz, v)] (s1.trans s2) r2 ((itv_ok ev q2 hl.symm).1 hk)⟩
        | true => rw [hk] at hq; exact .inr ⟨hq, k Z2 F2 H1 _ [(.d o.fz, v)] (s1.trans s2) r2 ((itv_ok ev q2 hl.symm).2 hk)⟩
/-- over a list or a tuple -/
def iAny (d : En → Rs O) : En → Rs (List D) := dOr (iSeq d) (iTupl d)
theorem hi_any {tg it : Expr} {d} (h : HE X cl Wo it d) : HI X cl Wo tg it (iAny d) := hi_alt (hi_list h) (hi_tup h)
/-! ### list(range(..)), tuple(range(..)) -/
def rgD (a b : Int) : List D := rangeD a (b - a).toNat
theorem rds_rg {a b : Int} : RDs W H Z (rgD a b) (rgV a b) := by
  unfold rgD rangeD rgV
  generalize (List.range (b - a).toNat) = l
  induction l with
  | nil => exact rfl
  | cons x l ih => exact ⟨_, _, rfl, rfl, ih⟩
def rgB (a b : Int) : Bool := inB a && inB b && decide ((b - a).toNat ≤ 2 ^ 24)
theorem rgB_of {a b : Int} (h : rgB a b = true) : RgOk a b := by
  unfold rgB at h
  rw [Bool.and_eq_true, Bool.and_eq_true] at h
  exact ⟨(inB_of h.1.1).1, (inB_of h.1.1).2, (inB_of h.1.2).1, (inB_of h.1.2).2, of_decide_eq_true h.2⟩
/-- a range as an argument -/
def RgD := En → Rs (Int × Int)
def rdRg (W : Wd) (Wo : WX) (d : En → Rs (Int × Int)) : L2.St → Hp → (Int → Int → Hp → Prop) → Prop := fun σ H R => ∃ Z F P e T, RS W Z F P e T σ H ∧ match d e with
  | .ok ab e' => ∀ Z' F' H', Stp Z F H Z' F' H' → RS W Z' F' P e' T σ H' → R ab.1 ab.2 H'
  | .exc c ps e' => XOk W Wo Z F P T σ H c ps e'
  | .bad => False
def HRg (X : Cx) (cl : Cl) (Wo : WX) (ex : Expr) (d : En → Rs (Int × Int)) : Prop := PRg X ex (rdRg (Cx.wd X cl) Wo d)
def rg1 (d : En → Rs Ar) : En → Rs (Int × Int) := fun e => (d e).bind fun x e1 => match x.get e1 with
  | some (.d (.int n)) => .ok (0, n) e1
  | _ => .bad
theorem PRg.imp {ex : Expr} {t t' : L2.St → Hp → (Int → Int → Hp → Prop) → Prop} (h : PRg X ex t) (k : ∀ σ H R, t' σ H R → t σ H R) : PRg X ex t' := fun pins s σ H R I q => h pins s σ H R I (k σ H R q)
theorem hrg_1 {a : Expr} {d} {p : Pos} (hg : Gl X "range") (hm : X.mg "range" = none) (ha : HV X cl Wo a d) (na : starEach [a] X.env = (false, eval a X.env) :: starEach [] X.env := by rfl) : HRg X cl Wo (.Call (.Name "range" p) [a] [] pos) (rg1 d) :=
  PRg.imp (prg_1 hg hm ha na) fun σ H R ⟨Z, F, P, e, T, r0, k⟩ => by
    refine ⟨Z, F, P, e, T, r0, ?_⟩
    unfold rg1 at k
    cases q : d e with
    | bad => rw [q] at k; exact k
    | exc c ps e1 => rw [q] at k; exact k
    | ok x e1 =>
      rw [q] at k
      simp only [Rs.bind_ok] at k
      intro v Z1 F1 H1 s1 r1 a1
      split at k
      · rename_i x e2 i h2
        split at h2
        · rename_i n hx
          cases h2
          obtain ⟨sv, r2⟩ := see_tmp r1 a1 hx
          exact ⟨n, sv.int, k Z1 F1 H1 s1 r2⟩
        · cases h2
      · rename_i h2
        split at h2 <;> cases h2
      · exact k.elim
def rg2 (d d2 : En → Rs Ar) : En → Rs (Int × Int) := fun e => (d e).bind fun x e1 => (d2 e1).bind fun y e2 => match x.get e2, y.get e2 with
  | some (.d (.int n)), some (.d (.int m)) => .ok (n, m) e2
  | _, _ => .bad
theorem hrg_2 {a b : Expr} {d d2} {p : Pos} (hg : Gl X "range") (hm : X.mg "range" = none) (ha : HV X cl Wo a d) (hb : HV X cl Wo b d2) (na : starEach [a, b] X.env = (false, eval a X.env) :: starEach [b] X.env := by rfl)
    (nb : starEach [b] X.env = (false, eval b X.env) :: starEach [] X.env := by rfl) (hp : (backTo pos (starEach [b] X.env)).any (·.1) = false := by rfl) : HRg X cl Wo (.Call (.Name "range" p) [a, b] [] pos) (rg2 d d2) :=
  PRg.imp (prg_2 hg hm ha hb na nb hp) fun σ H R ⟨Z, F, P, e, T, r0, k⟩ => by
    refine ⟨Z, F, P, e, T, r0, ?_⟩
    unfold rg2 at k
    cases q : d e with
    | bad => rw [q] at k; exact k
    | exc c ps e1 => rw [q] at k; exact k
    | ok x e1 =>
      rw [q] at k
      simp only [Rs.bind_ok] at k
      intro v Z1 F1 H1 s1 r1 a1
      refine ⟨Z1, F1, P, e1, x.tmp v ++ T, r1, ?_⟩
      cases q2 : d2 e1 with
      | bad => rw [q2] at k; exact k.elim
      | exc c ps e' => rw [q2] at k; exact XOk.pops (XOk.step s1 k)
      | ok y e2 =>
        rw [q2] at k
        simp only [Rs.bind_ok] at k
        intro u Z2 F2 H2 s2 r2 a2
        cases g1 : x.get e2 with
        | none => rw [g1] at k; exact k.elim
        | some a =>
          cases g2 : y.get e2 with
          | none => rw [g1, g2] at k; cases a <;> first | exact k.elim | (rename_i z; cases z <;> exact k.elim)
          | some b =>
            rw [g1, g2] at k
            obtain ⟨sb, r3⟩ := see_tmp r2 a2 g2
            obtain ⟨sa, r4⟩ := see_tmp r3 a1 g1
            cases a with
            | d za =>
              cases za with
              | int n =>
                cases b with
                | d zb =>
                  cases zb with
                  | int m => exact ⟨n, m, sa.int, sb.int, k Z2 F2 H2 (s1.trans s2) r4⟩
                  | _ => exact k.elim
                | _ => exact k.elim
              | _ => exact k.elim
            | _ => exact k.elim
def dLRg (d : En → Rs (Int × Int)) : En → Rs O := fun e => (d e).bind fun ab e1 => if rgB ab.1 ab.2 = true then .ok (.lst ((rgD ab.1 ab.2).map .d)) e1 else .bad
def dTRg (d : En → Rs (Int × Int)) : En → Rs O := fun e => (d e).bind fun ab e1 => if rgB ab.1 ab.2 = true then .ok (.d (.tup (rgD ab.1 ab.2))) e1 else .bad
theorem he_listRg {ex : Expr} {d} {p : Pos} (hc : X.calm = true) (hg : Gl X "list") (hm : X.mg "list" = none) (h : HRg X cl Wo ex d) (na : starEach [ex] X.env = (false, eval ex X.env) :: starEach [] X.env := by rfl) : HE X cl Wo (.Call (.Name "list" p) [ex] [] pos) (dLRg d) :=
  PE.imp (pe_listRg hc hg hm h na) fun σ H Q ⟨Z, F, P, e, T, r0, k⟩ => by
    refine ⟨Z, F, P, e, T, r0, ?_⟩
    unfold dLRg at k
    cases q : d e with
    | bad => rw [q] at k; exact k
    | exc c ps e1 => rw [q] at k; exact k
    | ok ab e1 =>
      rw [q] at k
      simp only [Rs.bind_ok] at k
      intro Z1 F1 H1 s1 r1
      by_cases hb' : rgB ab.1 ab.2 = true
      · rw [if_pos hb'] at k
        exact ⟨rgB_of hb', fun p hp => k _ _ _ _ (s1.trans (Stp.allocF hp)) (r1.newL rds_rg hp)⟩
      · rw [if_neg hb'] at k; exact k.elim
theorem he_tupRg {ex : Expr} {d} {p : Pos} (hc : X.calm = true) (hg : Gl X "tuple") (hm : X.mg "tuple" = none) (h : HRg X cl Wo ex d) (na : starEach [ex] X.env = (false, eval ex X.env) :: starEach [] X.env := by rfl) : HE X cl Wo (.Call (.Name "tuple" p) [ex] [] pos) (dTRg d) :=
  PE.imp (pe_tupRgN hc hg hm h na) fun σ H Q ⟨Z, F, P, e, T, r0, k⟩ => by
    refine ⟨Z, F, P, e, T, r0, ?_⟩
    unfold dTRg at k
    cases q : d e with
    | bad => rw [q] at k; exact k
    | exc c ps e1 => rw [q] at k; exact k
    | ok ab e1 =>
      rw [q] at k
      simp only [Rs.bind_ok] at k
      intro Z1 F1 H1 s1 r1
      by_cases hb' : rgB ab.1 ab.2 = true
      · rw [if_pos hb'] at k
        exact ⟨rgB_of hb', fun p o hp ho => k _ _ _ _ (s1.trans (Stp.alloc hp)) (r1.newT rds_rg hp ho)⟩
      · rw [if_neg hb'] at k; exact k.elim
end
end MX

/-! MXf: sorted, index, dict displays. -/
namespace MX
open PySem L2 PySem.Spec PyProof.Rows
section
open SrtO
variable {prog : Program} {w : World} {A : Around} {E : Value → Shared → Prop} {s : Shared}
theorem sorted_seq {k : Bool} {l : Addr} {vs : List Value} {ltv : Value → Value → Bool} {Q : Value → Shared → Prop} (O : Swo ltv) (hl : SqO k s.heap l vs.toArray) (hz : vs.length ≤ sizeLine)
    (hS : 2 ≤ vs.length → ∀ (h₁ : Heap) (a : Addr), h₁.get? a = some (seqObj "list" vs.toArray 0) → (∀ b o, s.heap.get? b = some o → b ≠ a ∧ h₁.get? b = some o) → SortableO prog w A.in1.in1 { s with heap := h₁ } a vs ltv)
    (h : ∀ (h1 h' : Heap) (a : Addr) (out : List Value), Srtd ltv out → Stb ltv out vs → (∀ b o, s.heap.get? b = some o → h1.get? b = some o) → (∀ b o, h1.get? b = some o → h'.get? b = some o) → h1.objs.size ≤ a → (∃ e, h'.get? a = some (seqObj "list" out.toArray e)) → Q (.ref a) { s with heap := h' }) :
    wpAny (model prog w) A (call (.builtin "sorted") [.ref l]) Q E s := by
  refine Calls.call_function_entry kind_sorted plain_sorted entry_sorted (args_sorted1 _) ?_
  unfold Builtin.«sorted»
  refine wpAny_bind (m := checkCount "sorted" 1 1 _) (wpAny_pure ?_)
  have key : ∃ T o n, (T = "list" ∨ T = "tuple") ∧ s.heap.get? l = some o ∧ o.cls = .type T ∧ o.data = .seq vs.toArray n := by
    cases k
    · obtain ⟨o, ho, hc, n, hd⟩ := hl
      exact ⟨_, o, n, .inl rfl, ho, hc, hd⟩
    · obtain ⟨o, ho, hc, n, hd⟩ := hl
      exact ⟨_, o, n, .inr rfl, ho, hc, hd⟩
  obtain ⟨T, o, n, hT, ho, hc, hd⟩ := key
  refine wpAny_bind (wpAny_collect_seq l hT ho hc hd (fun h1 hk => ?_) (by rw [List.size_toArray]; exact hz))
  show wpAny _ _ _ _ _ _
  refine wpAny_bind (wpAny_newList ?_ hz)
  have hoL : (h1.push (seqObj "list" vs.toArray 0)).get? h1.objs.size = some (seqObj "list" vs.toArray 0) := Heap.get?_push_size _ rfl
  have keep : ∀ b o, s.heap.get? b = some o → b ≠ h1.objs.size ∧ (h1.push (seqObj "list" vs.toArray 0)).get? b = some o := fun b o q => by
    have q1 := hk b o q
    exact ⟨Nat.ne_of_lt (Heap.lt_size q1), Heap.get?_push_of_some _ q1⟩
  refine wpAny_bind (wpAny_holding (wpAny_call_entry slot_list_sort ⟨_, hoL, rfl⟩ entry_list_sort (list_sort_ord O hoL hz (fun h2 => hS h2 _ _ hoL keep) fun out hs hb => ⟨_, rfl, ?_⟩) (args_list_sort _)))
  refine wpAny_pure ⟨_, rfl, ?_⟩
  refine h h1 _ _ out hs hb hk (fun b o q => ?_) (Nat.le_refl _) (sortedHeap_at hoL)
  have hlt : b < h1.objs.size := Heap.lt_size q
  rw [sortedHeap_old (Nat.ne_of_lt hlt) (by rw [Heap.size_push]; exact Nat.lt_succ_of_lt hlt)]
  exact Heap.get?_push_of_some _ q
end
section
variable {X : Cx}
def rSortedK (K : PySem.W.Frag) : List V → Hp → VK → Prop := fun vs H Q => ∃ (k : Bool) (a : Addr) (ns : List Int), vs = [V.ref a] ∧ SqK K k H a (ns.map V.int) ∧
  ∀ (ns' : List Int) (p : Addr), ns'.Perm ns → ns'.Pairwise (· ≤ ·) → H p = none → Q (.ref p) (upd H p (.lst (ns'.map V.int)))
theorem cr_sortedK : CallR X (.builtin "sorted") (rSortedK X.K) := by
  intro pins s σ H vs us Q I r h
  obtain ⟨k, a, ns, rfl, hs, q⟩ := h
  have hz : ns.length ≤ sizeLine := by
    cases k
    · obtain ⟨its, rv, hl, hz⟩ := I.list hs
      rw [List.length_map] at hz; exact hz
    · obtain ⟨its, rv, hl, hz⟩ := I.tuple hs
      rw [List.length_map] at hz; exact hz
  obtain ⟨its, rv, hl, hlt⟩ := inv_sq I hs
  rw [Vals.ref1 r]
  have hi := rv.ints
  have hlen := rv.length
  rw [List.length_map] at hlen
  refine sorted_seq SrtO.swo_int hl (by rw [← hlen]; exact hz) (fun h2 h₁ a' _ _ => SrtO.ints_sortable hi h2) fun h1 h' p out o1 o2 k1 k2 hp he => ?_
  obtain ⟨e1, e2, e3⟩ := SrtO.ints_out hi o1 o2
  obtain ⟨ep, he'⟩ := he
  have I1 : Inv X pins σ H { s with heap := h1 } := I.kept (t' := s.toks) k1
  have hl2 : ((out.map SrtO.iv).map V.int).length ≤ sizeLine := by
    rw [List.length_map, e2.length_eq]
    exact hz
  exact ⟨.ref _, upd H p (.lst ((out.map SrtO.iv).map V.int)), I1.laid (t' := s.toks) k2 hp ⟨hl2, out, ep, vals_of_ints e1, he'⟩, rfl, q _ _ e2 e3 (I1.hok.fresh hp)⟩
end
section
variable {X : Cx} {cl : Cl} {Wo : WX} {pos : Pos}
variable {W : Wd} {Z F Z' F' : Addr → Prop} {P P' : Nat → V} {e : En} {T : Ts} {σ : L2.St} {H H' : Hp} {Q : VK}
def O.seqInts (o : O) : Option (List Int) := match o.items with
  | some ds => intsD ds
  | none => none
def insI (x : Int) : List Int → List Int
  | [] => [x]
  | y :: ys => if x ≤ y then x :: y :: ys else y :: insI x ys
def sortI : List Int → List Int
  | [] => []
  | x :: xs => insI x (sortI xs)
theorem insI_perm {x : Int} : ∀ {ys : List Int}, (insI x ys).Perm (x :: ys)
  | [] => .refl _
  | y :: ys => by
    unfold insI
    split
    · exact .refl _
    · exact (List.Perm.cons y insI_perm).trans (List.Perm.swap x y ys)
theorem sortI_perm : ∀ {xs : List Int}, (sortI xs).Perm xs
  | [] => .refl _
  | x :: xs => (insI_perm).trans (List.Perm.cons x sortI_perm)
theorem insI_sorted {x : Int} : ∀ {ys : List Int}, ys.Pairwise (· ≤ ·) → (insI x ys).Pairwise (· ≤ ·)
  | [], _ => List.pairwise_singleton _ _
  | y :: ys, h => by
    obtain ⟨h1, h2⟩ := List.pairwise_cons.mp h
    unfold insI
    split
    · rename_i q
      exact List.pairwise_cons.mpr ⟨fun z hz => (List.mem_cons.mp hz).elim (fun e => by rw [e]; exact q) fun m => Int.le_trans q (h1 z m), h⟩
    · rename_i q
      exact List.pairwise_cons.mpr ⟨fun z hz => (List.mem_cons.mp (insI_perm.mem_iff.mp hz)).elim (fun e => by rw [e]; omega) fun m => h1 z m, insI_sorted h2⟩
theorem sortI_sorted : ∀ {xs : List Int}, (sortI xs).Pairwise (· ≤ ·)
  | [] => .nil
  | x :: xs => insI_sorted sortI_sorted
theorem sorted_uniq : ∀ {xs ys : List Int}, xs.Perm ys → xs.Pairwise (· ≤ ·) → ys.Pairwise (· ≤ ·) → xs = ys := fun p h1 h2 =>
  List.Perm.eq_of_pairwise (le := (· ≤ ·)) (fun a b _ _ h h' => Int.le_antisymm h h') h1 h2 p
def fSorted : O → Option O := fun o => o.seqInts.map fun ns => .lst ((sortI ns).map fun i => .d (.int i))
theorem ints_rds : ∀ {ns : List Int}, RDs W H Z (ns.map D.int) (ns.map V.int)
  | [] => rfl
  | n :: ns => ⟨_, _, rfl, rfl, ints_rds⟩
theorem See.sqk {o : O} {v : V} {ds : List D} (h : See W H Z o v) (q : o.items = some ds) : ∃ k a vs, v = .ref a ∧ SqK W.K k H a vs ∧ RDs W H Z ds vs := by
  obtain ⟨a, vs, e, h1, r⟩ := h.seq q
  rcases h1 with h1 | h1
  · exact ⟨false, a, vs, e, h1, r⟩
  · exact ⟨true, a, vs, e, h1, r⟩
theorem cSorted : CallOk W (on1 fSorted) (rSortedK W.K) := by
  intro Z F P e T σ H os z vs Q hf ss rs k
  obtain ⟨o, rfl, hg⟩ := on1_some hf
  clear hf
  obtain ⟨v, rfl, s⟩ := ss.one
  unfold fSorted O.seqInts at hg
  cases q : o.items with
  | none => rw [q] at hg; cases hg
  | some ds =>
    rw [q] at hg
    simp only at hg
    cases q2 : intsD ds with
    | none => rw [q2] at hg; cases hg
    | some ns =>
      rw [q2] at hg; cases hg
      obtain ⟨kk, a, us, e, h1, r⟩ := s.sqk q
      have eu := intsD_rds q2 r
      subst eu
      refine ⟨kk, a, ns, by rw [e], h1, fun ns' p hp hs hn => ?_⟩
      have : ns' = sortI ns := sorted_uniq (hp.trans sortI_perm.symm) hs sortI_sorted
      subst this
      have := rs.newL (ds := (sortI ns).map D.int) ints_rds hn
      rw [List.map_map] at this
      exact k _ _ _ _ (Stp.allocF hn) this
/-! ### methods that look -/
def rIdx (K : PySem.W.Frag) : V → List V → Hp → VK → Prop := fun x xs H Q => ∃ (k : Bool) (a : Addr) (ns : List Int) (i : Int), x = .ref a ∧ xs = [.int i] ∧ SqK K k H a (ns.map V.int) ∧ i ∈ ns ∧ Q (.int (ns.idxOf i : Nat)) H
theorem mt_tupIdx : MtR X "tuple.index" (fun x xs H Q => ∃ (a : Addr) (ns : List Int) (i : Int), x = .ref a ∧ xs = [.int i] ∧ SqT X.K H a (ns.map V.int) ∧ i ∈ ns ∧ Q (.int (ns.idxOf i : Nat)) H) := by
  intro pins s σ H x xs v us Q I rx rv h
  obtain ⟨a, ns, i, rfl, rfl, hq, hm, q⟩ := h
  cases rx
  obtain ⟨u, rfl, ru⟩ := vals1 rv
  obtain ⟨t, rfl⟩ := ru
  obtain ⟨its, r, p, hz⟩ := I.tuple hq
  exact SeqAt.tuple_index_ints p r.ints hm ⟨.int (ns.idxOf i : Nat), H, I.tok _, ⟨_, rfl⟩, q⟩
theorem mt_lstIdx : MtR X "list.index" (fun x xs H Q => ∃ (a : Addr) (ns : List Int) (i : Int), x = .ref a ∧ xs = [.int i] ∧ SqL X.K H a (ns.map V.int) ∧ i ∈ ns ∧ Q (.int (ns.idxOf i : Nat)) H) := by
  intro pins s σ H x xs v us Q I rx rv h
  obtain ⟨a, ns, i, rfl, rfl, hq, hm, q⟩ := h
  cases rx
  obtain ⟨u, rfl, ru⟩ := vals1 rv
  obtain ⟨t, rfl⟩ := ru
  obtain ⟨its, r, p, hz⟩ := I.list hq
  rw [List.length_map] at hz
  exact SeqAt.list_index_ints p.isList r.ints hz hm ⟨.int (ns.idxOf i : Nat), H, I.tok _, ⟨_, rfl⟩, q⟩
/-- the receiver's type -/
def tyN (K : PySem.W.Frag) (T : String) (x : V) (H : Hp) : Prop := tyV K T x H ∨ (T = "tuple" ∧ ∃ a vs, x = .ref a ∧ TupAt K H a vs)
theorem tyN_is {pins : List (Addr × Obj)} {s : Shared} {T : String} {x : V} {v : Value} (I : Inv X pins σ H s) (r : RelV x v) (ty : tyN X.K T x H) :
    s.TypeIs v T ∧ ∀ a, v = .ref a → ∃ ob, s.heap.get? a = some ob ∧ ob.dict = none := by
  rcases ty with ty | ⟨rfl, a, vs, rfl, h⟩
  · exact tyV_is I r ty
  · obtain rfl : v = .ref a := r
    obtain ⟨h1, h2⟩ := h.nd I
    exact ⟨h1, fun b e => by cases e; exact h2⟩
def tBN (K : PySem.W.Frag) (T : String) (r : V → List V → Hp → VK → Prop) (to : TE) (t : TA) : TE := fun σ H Q => to σ H fun x H1 => tyN K T x H1 ∧ t σ H1 fun xs H2 => r x xs H2 Q
theorem pe_bn {o ex : Expr} {es : List Expr} {to : TE} {t : TA} {name : Str} {apos cpos : Pos} {T id : String} {r : V → List V → Hp → VK → Prop} (pa : PlainAttrs T) (slot : Slot T name id) (hty : typeOf (.builtin id) = pure (.type "method_descriptor")) (hm : MtR X id r) (ho : PE X o to) (ha : PA X (ex :: es) t)
    (hbase : attributeBase o name X.env (eval o X.env) = eval o X.env := by rfl)
    (hfew : ((backTo cpos (starEach (ex :: es) X.env)).all (fun x => !x.1) && (backToKw cpos (keywordEach [] X.env)).all (fun x => x.1.isSome)
      && decide ((ex :: es).length + ([] : List Keyword).length + (if ([] : List Keyword).isEmpty then 0 else 1) < 30)) = true := by rfl)
    (hline : (apos.endLine == cpos.line) = true := by rfl) (hs : starEach (ex :: es) X.env = (false, eval ex X.env) :: starEach es X.env := by rfl) (hplain : (backTo cpos (starEach es X.env)).any (·.1) = false := by rfl) :
    PE X (.Call (.Attribute o name apos) (ex :: es) [] cpos) (tBN X.K T r to t) := by
  refine ⟨fun pins s σ H Q I h => ?_⟩
  refine wpAny_Call_method_late hbase hfew hline rfl (thn (ho.run pins s σ H _ I h) fun v s1 ⟨x, H1, I1, r1, ty, q1⟩ => ?_)
  obtain ⟨h1, h2⟩ := tyN_is I1 r1 ty
  refine ⟨T, id, pa, slot, hty, h1, h2, ?_⟩
  have hA := ha.run cpos pins s1 σ H1 _ I1 q1
  rw [hs] at hA ⊢
  refine Calls.callWith_builtin (by show (false || (backTo cpos (starEach es X.env)).any (·.1)) = false; rw [hplain] <;> rfl) (Calls.evalArgs_plain ?_)
  exact thn hA fun us s2 ⟨vs, H2, I2, r2, q2⟩ => hm pins s2 σ H2 x vs v us Q I2 r1 r2 q2
/-- what a value's type is, as a method's receiver -/
def O.ty : O → String
  | .lst _ => "list"
  | .dic _ _ => "dict"
  | .d (.lst _) => "list"
  | .d (.tup _) => "tuple"
  | .d (.dic _ _) => "dict"
  | .d (.str _) => "str"
  | .d (.int _) => "int"
  | _ => ""
theorem See.ty {o : O} {v : V} {T : String} (h : See W H Z o v) (q : o.ty = T) (hne : T ≠ "") (hd : T ≠ "dict") : tyN W.K T v H := by
  subst q
  cases o with
  | lst os => obtain ⟨f, a, vs, f', rfl, hh, _⟩ := h; exact .inl (.inl ⟨rfl, vs, .inl (.inl hh)⟩)
  | dic ks xs => exact absurd rfl hd
  | obj c ns xs => exact absurd rfl hne
  | d x =>
    cases x with
    | lst xs => obtain ⟨a, vs, rfl, hh, _⟩ := h.d; exact .inl (.inl ⟨rfl, vs, .inl hh.2⟩)
    | tup xs => obtain ⟨a, vs, rfl, hh, _⟩ := h.d; exact .inr ⟨rfl, a, vs, rfl, hh⟩
    | str s => rw [h.str]; exact .inl rfl
    | int s => rw [h.int]; exact .inl rfl
    | dic ks xs => exact absurd rfl hd
    | _ => exact absurd rfl hne
/-- x.m(..) that looks at x and the arguments -/
def MethOk (W : Wd) (f : O → List O → Option O) (r : V → List V → Hp → VK → Prop) : Prop :=
  ∀ Z F P e T σ H a os z v vs Q, f a os = some z → See W H Z a v → Sees W H Z os vs → RS W Z F P e T σ H → (∀ w Z' F' H', Stp Z F H Z' F' H' → RS W Z' F' P e ((z, w) :: T) σ H' → Q w H') → r v vs H Q
def dMeth (T : String) (f : O → List O → Option O) (da : En → Rs Ar) (d : En → Rs (List Ar)) : En → Rs O := fun e => (da e).bind fun x e1 => match x.get e1 with
  | some a0 => if a0.ty = T then (d e1).bind fun xs e2 => match x.get e2, gets e2 xs with
    | some a, some os => fin (f a os) e2
    | _, _ => .bad
    else .bad
  | none => .bad
theorem rdMeth {Tn : String} {f} {r : V → List V → Hp → VK → Prop} {da : En → Rs Ar} {d : En → Rs (List Ar)} (hf : MethOk W f r) (hne : Tn ≠ "") (hd : Tn ≠ "dict") (h : rdE W Wo (dMeth Tn f da d) σ H Q) :
    tBN W.K Tn r (rdV W Wo da) (rdVs W Wo d) σ H Q := by
  obtain ⟨Z, F, P, e, T, r0, k⟩ := h
  refine ⟨Z, F, P, e, T, r0, ?_⟩
  unfold dMeth at k
  cases qa : da e with
  | bad => rw [qa] at k; exact k
  | exc c ps e' => rw [qa] at k; exact k
  | ok x e1 =>
    intro v Z1 F1 H1 s1 r1 a1
    rw [qa] at k
    simp only [Rs.bind_ok] at k
    cases g0 : x.get e1 with
    | none => rw [g0] at k; exact k.elim
    | some a0 =>
      rw [g0] at k
      simp only at k
      by_cases ht : a0.ty = Tn
      · rw [if_pos ht] at k
        obtain ⟨sa0, _⟩ := see_tmp r1 a1 g0
        refine ⟨sa0.ty ht hne hd, Z1, F1, P, e1, x.tmp v ++ T, r1, ?_⟩
        cases qb : d e1 with
        | bad => rw [qb] at k; exact k
        | exc c ps e' => rw [qb] at k; exact XOk.pops (XOk.step s1 k)
        | ok xs e2 =>
          rw [qb] at k
          simp only [Rs.bind_ok] at k
          intro vs Z2 F2 H2 hl s2 r2 a2
          cases gx : x.get e2 with
          | none => rw [gx] at k; exact k.elim
          | some a =>
            cases gy : gets e2 xs with
            | none => rw [gx, gy] at k; exact k.elim
            | some os =>
              rw [gx, gy] at k
              obtain ⟨ss, r3⟩ := sees_tmps hl r2 a2 gy
              obtain ⟨sa, r4⟩ := see_tmp r3 a1 gx
              cases qz : f a os with
              | none => simp only [fin, qz] at k; exact k.elim
              | some z =>
                simp only [fin, qz] at k
                exact hf Z2 F2 P e2 T σ H2 a os z v vs Q qz sa ss r4 fun w Z' F' H' s3 r5 => k w Z' F' H' ((s1.trans s2).trans s3) r5
      · rw [if_neg ht] at k; exact k.elim
theorem he_meth {o ex : Expr} {es : List Expr} {name : Str} {apos cpos : Pos} {T id : String} {r : V → List V → Hp → VK → Prop} {f} {da d} (hf : MethOk (Cx.wd X cl) f r) (pa : PlainAttrs T) (slot : Slot T name id) (hty : typeOf (.builtin id) = pure (.type "method_descriptor")) (hm : MtR X id r) (ho : HV X cl Wo o da) (ha : HVs X cl Wo (ex :: es) d)
    (hne : T ≠ "" := by decide) (hd : T ≠ "dict" := by decide)
    (hbase : attributeBase o name X.env (eval o X.env) = eval o X.env := by rfl)
    (hfew : ((backTo cpos (starEach (ex :: es) X.env)).all (fun x => !x.1) && (backToKw cpos (keywordEach [] X.env)).all (fun x => x.1.isSome)
      && decide ((ex :: es).length + ([] : List Keyword).length + (if ([] : List Keyword).isEmpty then 0 else 1) < 30)) = true := by rfl)
    (hline : (apos.endLine == cpos.line) = true := by rfl) (hs : starEach (ex :: es) X.env = (false, eval ex X.env) :: starEach es X.env := by rfl) (hplain : (backTo cpos (starEach es X.env)).any (·.1) = false := by rfl) :
    HE X cl Wo (.Call (.Attribute o name apos) (ex :: es) [] cpos) (dMeth T f da d) :=
  PE.imp (pe_bn pa slot hty hm ho ha hbase hfew hline hs hplain) fun σ H Q h => rdMeth hf hne hd h
def fIndex (a : O) (os : List O) : Option O := match a.seqInts, os with
  | some ns, [.d (.int i)] => if i ∈ ns then some (.d (.int (ns.idxOf i : Nat))) else none
  | _, _ => none
def fTupIdx (a : O) (os : List O) : Option O := if a.ty = "tuple" then fIndex a os else none
def fLstIdx (a : O) (os : List O) : Option O := if a.ty = "list" then fIndex a os else none
theorem mTupIndex : MethOk W fTupIdx (fun x xs H Q => ∃ (a : Addr) (ns : List Int) (i : Int), x = .ref a ∧ xs = [.int i] ∧ SqT W.K H a (ns.map V.int) ∧ i ∈ ns ∧ Q (.int (ns.idxOf i : Nat)) H) := by
  intro Z F P e T σ H a os z v vs Q hf sa ss rs k
  unfold fTupIdx at hf
  split at hf
  · rename_i ht
    unfold fIndex at hf
    split at hf
    · rename_i ns i hn
      split at hf
      · rename_i hm; cases hf
        obtain ⟨u, rfl, su⟩ := ss.one
        unfold O.seqInts at hn
        cases q : a.items with
        | none => rw [q] at hn; cases hn
        | some ds =>
          rw [q] at hn
          cases a with
          | d x =>
            cases x with
            | tup es =>
              obtain ⟨p, us, e1, h1, r1⟩ := sa.tuple (ds := ds) q
              have eu := intsD_rds hn r1
              subst eu
              exact ⟨p, ns, i, e1, by rw [su.int], h1, hm, done_leaf (x := .int (ns.idxOf i : Nat)) rs (fun _ _ => rfl) k⟩
            | _ => exact absurd ht (by simp [O.ty])
          | _ => exact absurd ht (by simp [O.ty])
      · cases hf
    · cases hf
  · cases hf
theorem mLstIndex : MethOk W fLstIdx (fun x xs H Q => ∃ (a : Addr) (ns : List Int) (i : Int), x = .ref a ∧ xs = [.int i] ∧ SqL W.K H a (ns.map V.int) ∧ i ∈ ns ∧ Q (.int (ns.idxOf i : Nat)) H) := by
  intro Z F P e T σ H a os z v vs Q hf sa ss rs k
  unfold fLstIdx at hf
  split at hf
  · rename_i ht
    unfold fIndex at hf
    split at hf
    · rename_i ns i hn
      split at hf
      · rename_i hm; cases hf
        obtain ⟨u, rfl, su⟩ := ss.one
        unfold O.seqInts at hn
        cases q : a.items with
        | none => rw [q] at hn; cases hn
        | some ds =>
          rw [q] at hn
          have fin : ∀ (q' : a.ls = some ds), ∃ (a : Addr) (ns : List Int) (i' : Int), v = .ref a ∧ [u] = [.int i'] ∧ SqL W.K H a (ns.map V.int) ∧ i' ∈ ns ∧ Q (.int (ns.idxOf i' : Nat)) H := fun q' => by
            obtain ⟨p, us, e1, h1, r1⟩ := sa.list (ds := ds) q'
            have eu := intsD_rds hn r1
            subst eu
            exact ⟨p, ns, i, e1, by rw [su.int], h1, hm, done_leaf (x := .int (ns.idxOf i : Nat)) rs (fun _ _ => rfl) k⟩
          cases a with
          | lst os => exact fin q
          | d x =>
            cases x with
            | lst es => exact fin q
            | _ => exact absurd ht (by simp [O.ty])
          | _ => exact absurd ht (by simp [O.ty])
      · cases hf
    · cases hf
  · cases hf
end
end MX

/-! MXg: comprehensions with two for-s. -/
namespace MX
open PySem L2
section
variable {X : Cx} {cl : Cl} {Wo : WX} {pos : Pos}
variable {W : Wd} {Z F Z' F' : Addr → Prop} {P P' : Nat → V} {e : En} {T : Ts} {σ : L2.St} {H H' : Hp} {Q : VK}
theorem wipe_absorb {σ : L2.St} {us vs : List Nat} (h : ∀ u ∈ us, u ∈ vs) : L2.wipe (L2.wipe σ us) vs = L2.wipe σ vs := by
  have key : ∀ (ws : List Nat) (τ : L2.St) (u : Nat), u ∈ ws → L2.wipe (τ.set u none) ws = L2.wipe τ ws := by
    intro ws
    induction ws with
    | nil => exact fun _ _ h => nomatch h
    | cons w ws ih =>
      intro τ u hu
      show (L2.wipe (τ.set u none) ws).set w none = (L2.wipe τ ws).set w none
      by_cases q : u ∈ ws
      · rw [ih τ u q]
      · have hw : u = w := (List.mem_cons.mp hu).resolve_right q
        subst hw
        have gen : ∀ (zs : List Nat) (τ : L2.St), (L2.wipe (τ.set u none) zs).set u none = (L2.wipe τ zs).set u none := by
          intro zs
          induction zs with
          | nil => intro τ; show (τ.set u none).set u none = τ.set u none; rw [List.set_set]
          | cons z zs ih2 =>
            intro τ
            show ((L2.wipe (τ.set u none) zs).set z none).set u none = ((L2.wipe τ zs).set z none).set u none
            by_cases q2 : z = u
            · subst q2
              rw [ih2 τ]
            · rw [List.set_comm _ _ q2, ih2 τ, List.set_comm _ _ (Ne.symm q2)]
        exact gen ws τ
  induction us with
  | nil => rfl
  | cons u us ih =>
    show L2.wipe ((L2.wipe σ us).set u none) vs = L2.wipe σ vs
    rw [key vs _ u (h u List.mem_cons_self), ih fun w hw => h w (List.mem_cons_of_mem _ hw)]
theorem lc_inner {ds : List D} {vs : List Nat} {t : Tg} {c : En → Rs Bool} {el : En → Rs O} {J : It} {T2 TT : Ts} {σ : L2.St} {D : Addr} {Nx : Hp → Prop} (hJ : ItOk W J T2 ds) {acc : List O} (hel : e.length = σ.length) (hwe : wipeE e vs = e)
    (r : RS W Z F P e (T2 ++ ((.lst acc, .ref D) :: TT)) (L2.wipe σ vs) H) {acc' : List O} {e4 : En} (k : lcL vs t c el ds acc e = .ok (.lst acc') e4)
    (kn : ∀ Z' F' H', Stp Z F H Z' F' H' → RS W Z' F' P e4 (T2 ++ ((.lst acc', .ref D) :: TT)) (L2.wipe σ vs) H' → Nx H') :
    ∃ W1 : Nat → Nat → Hp → Prop, (∃ m, W1 0 m H) ∧ ∀ j k H, W1 j k H → (J.stop j H ∧ Nx H) ∨ (J.go j H ∧ ∃ Nx1 : Hp → Prop, (∀ H', Nx1 H' → ∃ k', k' < k ∧ W1 (j + 1) k' H') ∧ ∀ x H', J.yld j H x H' →
      rdG W vs t x (L2.wipe σ vs) H' fun σ3 H5 => L2.wipe σ3 vs = L2.wipe σ vs ∧ rdT W Wf c σ3 H5 fun b H6 => if b = true then rdE W Wf el σ3 H6 fun y H7 => ∃ acc, H7 D = some (.lst acc) ∧ acc.length < sizeLine ∧ Nx1 (upd H7 D (.lst (acc ++ [y]))) else Nx1 H6) := by
  refine ⟨fun i m H' => i + m = ds.length ∧ ∃ Z1 F1 e acc, Stp Z F H Z1 F1 H' ∧ e.length = σ.length ∧ wipeE e vs = e ∧ RS W Z1 F1 P e (T2 ++ ((.lst acc, .ref D) :: TT)) (L2.wipe σ vs) H' ∧ lcL vs t c el (ds.drop i) acc e = .ok (.lst acc') e4, ⟨ds.length, Nat.zero_add _, Z, F, e, acc, .refl, hel, hwe, r, k⟩, ?_⟩
  rintro i m H1 ⟨him, Z1, F1, e1, acc1, s1, hel1, hwe1, r1, k1⟩
  obtain ⟨hgo, hstop⟩ := hJ i Z1 F1 P e1 ((.lst acc1, .ref D) :: TT) (L2.wipe σ vs) H1 r1
  by_cases hi : i < ds.length
  · right
    have hd : ds[i]? = some ds[i] := List.getElem?_eq_getElem hi
    rw [List.drop_eq_getElem_cons hi] at k1
    unfold lcL at k1
    refine ⟨(hgo _ hd).1, fun H' => i + 1 + (m - 1) = ds.length ∧ ∃ Z1 F1 e acc, Stp Z F H Z1 F1 H' ∧ e.length = σ.length ∧ wipeE e vs = e ∧ RS W Z1 F1 P e (T2 ++ ((.lst acc, .ref D) :: TT)) (L2.wipe σ vs) H' ∧ lcL vs t c el (ds.drop (i + 1)) acc e = .ok (.lst acc') e4, fun H' h => ⟨m - 1, by omega, h⟩, fun x H' hy => ?_⟩
    obtain ⟨Z2, F2, s2, r2⟩ := (hgo _ hd).2 x H' hy
    refine ⟨Z2, F2, P, e1, T2 ++ ((.lst acc1, .ref D) :: TT), .d ds[i], r2, ?_⟩
    cases qt : t (.d ds[i]) e1 with
    | none => rw [qt] at k1; cases k1
    | some e2 =>
      rw [qt] at k1
      simp only at k1 ⊢
      intro σ3 Z3 F3 H3 k3 s3 r3
      have hw : L2.wipe σ3 vs = L2.wipe σ vs := (wipe_kps k3).trans (wipe_absorb fun _ h => h)
      have hσ3 : σ3.length = σ.length := by rw [k3.1, wipe_length]
      refine ⟨hw, Z3, F3, P, e2, _, r3, ?_⟩
      cases qc : c e2 with
      | bad => rw [qc] at k1; cases k1
      | exc c ps e' => rw [qc] at k1; cases k1
      | ok b e3 =>
        rw [qc] at k1
        intro Z4 F4 H4 s4 r4
        cases b with
        | false =>
          refine iteF ?_
          simp only at k1
          refine ⟨by omega, Z4, F4, wipeE e3 vs, acc1, ((s1.trans s2).trans s3).trans s4, by rw [wipeE_len, ← r4.elen, hσ3], wipeE_idem, ?_, k1⟩
          rw [← hw]; exact r4.wipe vs
        | true =>
          refine iteT ⟨Z4, F4, P, e3, _, r4, ?_⟩
          simp only at k1
          cases qe : el e3 with
          | bad => rw [qe] at k1; cases k1
          | exc c ps e' => rw [qe] at k1; cases k1
          | ok o e5 =>
            rw [qe] at k1
            simp only at k1
            intro y Z5 F5 H5 s5 r5
            split at k1
            · rename_i hz
              have r6 : RS W Z5 F5 P e5 ((o, y) :: (.lst acc1, .ref D) :: (T2 ++ TT)) σ3 H5 := r5.perm (List.Perm.cons _ List.perm_middle)
              obtain ⟨us, hh, hlu, s6, r7⟩ := r6.app
              refine ⟨us, hh, by rw [hlu]; exact hz, by omega, Z5, F5, wipeE e5 vs, acc1 ++ [o], ((((s1.trans s2).trans s3).trans s4).trans s5).trans s6, by rw [wipeE_len, ← r5.elen, hσ3], wipeE_idem, ?_, k1⟩
              rw [← hw]
              exact (r7.perm (T' := T2 ++ ((.lst (acc1 ++ [o]), .ref D) :: TT)) List.perm_middle.symm).wipe vs
            · cases k1
  · left
    have hge : ds.length ≤ i := Nat.le_of_not_lt hi
    rw [List.drop_of_length_le hge] at k1
    have e5 : Rs.ok (O.lst acc1) e1 = Rs.ok (.lst acc') e4 := k1
    cases e5
    exact ⟨hstop (by omega), kn Z1 F1 H1 s1 r1⟩
def lc2L (vs : List Nat) (t : Tg) (c : En → Rs Bool) (it1 : En → Rs (List D)) (vs1 : List Nat) (t1 : Tg) (c1 : En → Rs Bool) (el : En → Rs O) : List D → List O → En → Rs O
  | [], acc, e => .ok (.lst acc) e
  | d :: ds, acc, e => match t (.d d) e with
    | none => .bad
    | some e1 => match c e1 with
      | .ok true e2 => match it1 e2 with
        | .ok ds1 e3 => match lcL vs1 t1 c1 el ds1 acc (wipeE e3 vs1) with
          | .ok (.lst acc') e4 => lc2L vs t c it1 vs1 t1 c1 el ds acc' (wipeE e4 vs)
          | _ => .bad
        | _ => .bad
      | .ok false e2 => lc2L vs t c it1 vs1 t1 c1 el ds acc (wipeE e2 vs)
      | _ => .bad
def dLc2 (it : En → Rs (List D)) (vs : List Nat) (t : Tg) (c : En → Rs Bool) (it1 : En → Rs (List D)) (vs1 : List Nat) (t1 : Tg) (c1 : En → Rs Bool) (el : En → Rs O) : En → Rs O := fun e => (it e).bind fun ds e1 => lc2L vs t c it1 vs1 t1 c1 el ds [] (wipeE e1 vs)
theorem rdLc2 {it : En → Rs (List D)} {vs vs1 : List Nat} {t t1 : Tg} {c c1 : En → Rs Bool} {it1 : En → Rs (List D)} {el : En → Rs O} (hv : ∀ i ∈ vs1, i ∈ vs) (h : rdE W Wo (dLc2 it vs t c it1 vs1 t1 c1 el) σ H Q) :
    tLc2 (rdI W Wo it) (rdG W vs t) (rdT W Wf c) (rdI W Wf it1) (rdG W vs1 t1) (rdT W Wf c1) (rdE W Wf el) vs vs1 σ H Q := by
  obtain ⟨Z, F, P, e, T, r0, k⟩ := h
  refine ⟨Z, F, P, e, T, r0, ?_⟩
  unfold dLc2 at k
  cases qi : it e with
  | bad => rw [qi] at k; exact k
  | exc c ps e1 => rw [qi] at k; exact k
  | ok ds e1 =>
    rw [qi] at k
    simp only [Rs.bind_ok] at k
    intro Z1 F1 H1 J T2 s1 r1 hJ D hD
    have hlen : σ.length = e1.length := r1.elen
    have r2 : RS W Z1 (fun a => F1 a ∨ a = D) P e1 (T2 ++ ((.lst [], .ref D) :: T)) σ (upd H1 D (.lst [])) := by
      have := r1.newL (ds := []) (vs := []) rfl hD
      exact this.perm List.perm_middle.symm
    refine ⟨fun i m H => i + m = ds.length ∧ ∃ Z F e acc, e.length = σ.length ∧ wipeE e vs = e ∧ RS W Z F P e (T2 ++ ((.lst acc, .ref D) :: T)) (L2.wipe σ vs) H ∧ PostE W Wo Z F P T σ H Q (lc2L vs t c it1 vs1 t1 c1 el (ds.drop i) acc e), ⟨ds.length, Nat.zero_add _, Z1, _, wipeE e1 vs, [], by rw [wipeE_len, hlen], wipeE_idem, r2.wipe vs, ?_⟩, ?_⟩
    · have s2 : Stp Z F H Z1 (fun a => F1 a ∨ a = D) (upd H1 D (.lst [])) := s1.trans (Stp.allocF hD)
      cases q : lc2L vs t c it1 vs1 t1 c1 el ds [] (wipeE e1 vs) with
      | bad => rw [q] at k; exact k.elim
      | exc c ps e' => rw [List.drop_zero, q]; rw [q] at k; exact XOk.step s2 k
      | ok o e' => rw [List.drop_zero, q]; rw [q] at k; exact fun v Z' F' H' s3 r3 => k v Z' F' H' (s2.trans s3) r3
    · rintro i m H ⟨him, Z, F, e, acc, hel, hwe, r, k⟩
      obtain ⟨hgo, hstop⟩ := hJ i Z F P e ((.lst acc, .ref D) :: T) (L2.wipe σ vs) H r
      by_cases hi : i < ds.length
      · right
        have hd : ds[i]? = some ds[i] := List.getElem?_eq_getElem hi
        rw [List.drop_eq_getElem_cons hi] at k
        unfold lc2L at k
        refine ⟨(hgo _ hd).1, fun H' => i + 1 + (m - 1) = ds.length ∧ ∃ Z F e acc, e.length = σ.length ∧ wipeE e vs = e ∧ RS W Z F P e (T2 ++ ((.lst acc, .ref D) :: T)) (L2.wipe σ vs) H' ∧ PostE W Wo Z F P T σ H' Q (lc2L vs t c it1 vs1 t1 c1 el (ds.drop (i + 1)) acc e), fun H' h => ⟨m - 1, by omega, h⟩, fun x H' hy => ?_⟩
        obtain ⟨Z2, F2, s2, r2⟩ := (hgo _ hd).2 x H' hy
        refine ⟨Z2, F2, P, e, T2 ++ ((.lst acc, .ref D) :: T), .d ds[i], r2, ?_⟩
        cases qt : t (.d ds[i]) e with
        | none => rw [qt] at k; exact k.elim
        | some e2 =>
          rw [qt] at k
          simp only at k ⊢
          intro σ3 Z3 F3 H3 k3 s3 r3
          have hw : L2.wipe σ3 vs = L2.wipe σ vs := (wipe_kps k3).trans (wipe_absorb fun _ h => h)
          have hσ3 : σ3.length = σ.length := by rw [k3.1, wipe_length]
          refine ⟨hw, Z3, F3, P, e2, T2 ++ ((.lst acc, .ref D) :: T), r3, ?_⟩
          cases qc : c e2 with
          | bad => rw [qc] at k; exact k.elim
          | exc c ps e' => rw [qc] at k; exact k.elim
          | ok b e3 =>
            rw [qc] at k
            intro Z4 F4 H4 s4 r4
            cases b with
            | false =>
              refine iteF ?_
              simp only at k
              refine ⟨by omega, Z4, F4, wipeE e3 vs, acc, by rw [wipeE_len, ← r4.elen, hσ3], wipeE_idem, ?_, ?_⟩
              · rw [← hw]; exact r4.wipe vs
              · have s5 := (s2.trans s3).trans s4
                cases q : lc2L vs t c it1 vs1 t1 c1 el (ds.drop (i + 1)) acc (wipeE e3 vs) with
                | bad => rw [q] at k; exact k.elim
                | exc c ps e' => rw [q] at k; exact XOk.step s5 k
                | ok o e' => rw [q] at k; exact fun v Z' F' H' s3 r3 => k v Z' F' H' (s5.trans s3) r3
            | true =>
              refine iteT ⟨Z4, F4, P, e3, T2 ++ ((.lst acc, .ref D) :: T), r4, ?_⟩
              simp only at k
              cases q1 : it1 e3 with
              | bad => rw [q1] at k; exact k.elim
              | exc c ps e' => rw [q1] at k; exact k.elim
              | ok ds1 e4 =>
                rw [q1] at k
                simp only at k ⊢
                intro Z5 F5 H5 J1 T3 s5 r5 hJ1
                cases qn : lcL vs1 t1 c1 el ds1 acc (wipeE e4 vs1) with
                | bad => rw [qn] at k; exact k.elim
                | exc c ps e' => rw [qn] at k; exact k.elim
                | ok oo e5 =>
                  rw [qn] at k
                  cases oo with
                  | lst acc' =>
                    simp only at k
                    have r6 : RS W Z5 F5 P e4 (T3 ++ ((.lst acc, .ref D) :: (T2 ++ T))) σ3 H5 := r5.perm (List.Perm.append_left _ List.perm_middle)
                    refine lc_inner hJ1 (by rw [wipeE_len, ← r5.elen]) wipeE_idem (r6.wipe vs1) qn fun Z6 F6 H6 s6 r7 => ⟨by omega, Z6, F6, wipeE e5 vs, acc', ?_, wipeE_idem, ?_, ?_⟩
                    · rw [wipeE_len, ← r7.elen, wipe_length, hσ3]
                    · have r8 := (r7.appPop.perm (T' := T2 ++ ((.lst acc', .ref D) :: T)) List.perm_middle.symm).wipe vs
                      rw [wipe_absorb hv, hw] at r8
                      exact r8
                    · have s7 := (((s2.trans s3).trans s4).trans s5).trans s6
                      cases q : lc2L vs t c it1 vs1 t1 c1 el (ds.drop (i + 1)) acc' (wipeE e5 vs) with
                      | bad => rw [q] at k; exact k.elim
                      | exc c ps e' => rw [q] at k; exact XOk.step s7 k
                      | ok o e' => rw [q] at k; exact fun v Z' F' H' s3 r3 => k v Z' F' H' (s7.trans s3) r3
                  | _ => exact k.elim
      · left
        have hge : ds.length ≤ i := Nat.le_of_not_lt hi
        rw [List.drop_of_length_le hge] at k
        refine ⟨hstop (by omega), k (.ref D) Z F H .refl ?_⟩
        have r1 := r.appPop
        rw [← hwe] at r1 ⊢
        exact r1.unwipe hel.symm
theorem he_lc2 {elt tg iter tg1 iter1 : Expr} {ifs ifs1 : List Expr} {scope : Scope} {own : List (Str × Nat)} {vs1 : List Nat} {di di1} {t t1 : Tg} {dc dc1} {de} (hv : ∀ i ∈ vs1, i ∈ own.map (·.2))
    (h : PE X (.ListComp elt [⟨tg, iter, ifs, 0⟩, ⟨tg1, iter1, ifs1, 0⟩] scope pos) (tLc2 (rdI (Cx.wd X cl) Wo di) (rdG (Cx.wd X cl) (own.map (·.2)) t) (rdT (Cx.wd X cl) Wf dc) (rdI (Cx.wd X cl) Wf di1) (rdG (Cx.wd X cl) vs1 t1) (rdT (Cx.wd X cl) Wf dc1) (rdE (Cx.wd X cl) Wf de) (own.map (·.2)) vs1)) :
    HE X cl Wo (.ListComp elt [⟨tg, iter, ifs, 0⟩, ⟨tg1, iter1, ifs1, 0⟩] scope pos) (dLc2 di (own.map (·.2)) t dc di1 vs1 t1 dc1 de) := PE.imp h fun σ H Q h => rdLc2 hv h
end
end MX

/-! MXh: raise, try, isinstance of the caught error. -/
namespace MX
open PySem L2 PySem.Spec PyProof.Rows
section
variable {X : Cx} {cl : Cl} {Wo : WX} {pos : Pos}
variable {W W' : Wd} {Z F Z' F' : Addr → Prop} {P P' : Nat → V} {e : En} {T : Ts} {σ : L2.St} {H H' : Hp} {Q : VK}
/-- X() -/
theorem pmk_own0 {C : Addr} {bmB : List Value} {B newId initId : String} {x : Str} {p pos : Pos} (F : ExcBaseFacts B newId initId bmB) (q : PySem.W.excIn X.K C bmB newId = true) (gC : X.mg x = some (.ref C)) (kC : PySem.W.keepIn X.K (.ref C) = true) (r : Raises X (.ref C)) (hg : Gl X x)
    (hdb : (x == ("__debug__" : Str)) = false := by decide) : PMk X (.Call (.Name x p) [] [] pos) (fun _ H Q => Q (.ref C) none H) := by
  intro pins s σ H Q I h
  refine wpAny_Call_Name_kw (ld_glob I hg gC ?_ hdb)
  refine PySem.W.callWith_K0 I.kIn kC ?_
  show wpAny _ _ (call (.ref C) []) _ _ _
  obtain ⟨bm, N, nm, qn, bs, hdct, sn, sub, ab, col, dd, k0, k1, k2, k3, k5, mN, hC, hN, hni, T⟩ := exc_obj I.kIn q
  refine wpAny_call_exc_subT F T hC hN hni (fun h' e hm => ?_) (Nat.zero_le _)
  exact mk_of I hm r h (I.hok.gone hm.new)
def sRaise (c : String) : En → Out := fun e => .exc c [] e
theorem hs_raise {ex : Expr} {C : Addr} {c : String} (hc : X.calm = true) (tk : Takes X Wo) (he : PMk X ex (fun _ H Q => Q (.ref C) none H)) (hcl : cl.f c = some C) : HS X cl Wo (.Raise (some ex) none pos) (sRaise c) :=
  PS.imp (ps_raise hc tk he) fun D σ H ⟨Z, F, P, e, T, r, k⟩ => k σ Z F H C none hcl (.inl ⟨rfl, rfl⟩) .refl r
/-! ### moving between suites -/
theorem RS.mv (r : RS W Z F P e T σ H) (k : Wx W W') (pin : ∀ (i : Nat) (s : Sl), e[i]? = some s → s.pinned = true → σ[i]? = some (some (P' i))) (px : ∀ (i : Nat) (a : Addr), W'.ex = some (i, a) → P' i = .ref a) : RS W' Z F P' e T σ H := by
  obtain ⟨⟨fe, ft, h1, h2, nd, hF⟩, sep, zin, fin, _, _⟩ := r
  exact ⟨⟨fe, ft, h1.wx k _ _ _, h2.wx k _ _ _, nd, hF⟩, sep, zin, fin, pin, px⟩
theorem RS.enter (r : RS W Z F P e T σ H) (k : Wx W W') {i : Nat} {a : Addr} (hi : i < e.length) (hx : W'.ex = some (i, a)) : RS W' Z F (fun j => if j = i then .ref a else P j) (e.set i .pn) T (σ.set i (some (.ref a))) H := by
  have r1 := r.forget i (some (.ref a))
  have hσ : i < σ.length := by rw [r.elen]; exact hi
  obtain ⟨⟨fe, ft, h1, h2, nd, hF⟩, sep, zin, fin, pin, _⟩ := r1
  have he : (e.set i .pn).map Sl.cont = (e.set i .no).map Sl.cont := by rw [map_set_cont, map_set_cont]; rfl
  refine ⟨⟨fe, ft, by rw [he]; exact h1.wx k _ _ _, h2.wx k _ _ _, nd, hF⟩, sep, zin, fin, fun j s hj hp => ?_, fun j b hb => ?_⟩
  · by_cases q : j = i
    · subst q
      rw [List.getElem?_set_self hσ, if_pos rfl]
    · rw [if_neg q]
      rw [List.getElem?_set_ne (Ne.symm q)] at hj
      exact pin j s (by rw [List.getElem?_set_ne (Ne.symm q)]; exact hj) hp
  · rw [hx] at hb
    cases hb
    rw [if_pos rfl]
theorem RS.leave {i : Nat} {a : Addr} (r : RS W' Z F (fun j => if j = i then .ref a else P j) e T σ H) (k : Wx W' W) (x : Option V) (px : ∀ (i : Nat) (a : Addr), W.ex = some (i, a) → P i = .ref a) : RS W Z F P (e.set i .no) T (σ.set i x) H := by
  have r1 := r.forget i x
  refine r1.mv k (fun j s hj hp => ?_) px
  have := r1.pin j s hj hp
  by_cases q : j = i
  · subst q
    rw [List.getElem?_set] at hj
    simp only [if_true] at hj
    split at hj
    · cases hj; cases hp
    · cases hj
  · rw [if_neg q] at this
    exact this
def Out.unslot (i : Nat) : Out → Out
  | .nx e => .nx (e.set i .no)
  | .rt o e => .rt o (e.set i .no)
  | .bk e => .bk (e.set i .no)
  | .ct e => .ct (e.set i .no)
  | _ => .bad
/-- try: db; except X as n: hd (n's slot is i) -/
def sTryAs (i : Nat) (sub : String → Option Bool) (db : En → Out) (hd : String → En → Out) : En → Out := fun e => match db e with
  | .exc c ps e1 => match sub c with
    | some true => if (ps.isEmpty && decide (i < e1.length)) = true then (hd c (e1.set i .pn)).unslot i else .bad
    | some false => .exc c ps e1
    | none => .bad
  | r => r
theorem set_cur {σ : L2.St} {i : Nat} : σ.set i (σ[i]?.getD none) = σ := by
  refine List.ext_getElem? fun j => ?_
  rw [List.getElem?_set]
  by_cases q : i = j
  · subst q
    simp only [if_true]
    split
    · rename_i h
      rw [List.getElem?_eq_getElem h]; rfl
    · rename_i h
      rw [List.getElem?_eq_none (by omega)]
  · simp [q]
theorem hs_try_as {x n : Str} {cv : Value} {i : Nat} {body suite : List Stmt} {b₀ : Stmt} {np pos' : Pos} {sub : String → Option Bool} {db : En → Out} {hd : String → En → Out} (hs : X.stack = X.env :: X.outer) (hf : X.env.frame = some X.env.locals) (hN : X.N.Nodup) (hi : X.N[i]? = some n) (hln : X.env.kindOf n = some .local) (hc : Names X x cv) (tk : Takes X Wo)
    (hsub : ∀ c C b, cl.f c = some C → sub c = some b → PySem.W.exmOne X.K (.ref C) cv = some b)
    (hb : ∀ (W' : WX) (pn : List (Addr × Obj)) (xe : Value → Shared → Prop), Takes (X.tr pn xe) W' → PassesOwn (model X.prog X.w) X.A X.env xe → HSs (X.tr pn xe) cl W' body db)
    (hh : ∀ (c : String) (C a : Addr) (oe : Obj) (pn : List (Addr × Obj)), cl.f c = some C → Zc (.ref C) none oe → (∃ vs, oe.data = .fields vs) → HSs (X.suite a ((a, oe) :: pn)) ⟨cl.f, some (i, a)⟩ Wf (b₀ :: suite) (hd c)) :
    HS X cl Wo (.Try body [.ExceptHandler (some (.Name x np)) (some n) (b₀ :: suite) pos'] [] [] pos) (sTryAs i sub db hd) :=
  PS.imp (ps_try_as (tb := fun W' => rdS (Cx.wd X cl) W' db) (ts := fun a cls d D σ H => ∃ c C, cls = .ref C ∧ cl.f c = some C ∧ d = none ∧ rdS ⟨X.K, cl.f, some (i, a)⟩ Wf (hd c) D σ H) hs hf hN hi hln hc tk hb
    (fun a oe cls d pn hz hfl => ⟨fun pins s σ H D I ⟨c, C, ec, hcl, ed, q⟩ => (hh c C a oe pn hcl (by rw [← ec, ← ed]; exact hz) hfl).run pins s σ H D I q⟩))
  fun D σ H ⟨Z, F, P, e, T, r, k⟩ => by
    refine ⟨Z, F, P, e, T, r, ?_⟩
    unfold sTryAs at k
    cases q : db e with
    | nx e1 => rw [q] at k; exact k
    | rt o e1 => rw [q] at k; exact k
    | bk e1 => rw [q] at k; exact k
    | ct e1 => rw [q] at k; exact k
    | bad => rw [q] at k; exact k
    | exc c ps e1 =>
      rw [q] at k
      simp only at k
      intro σ1 Z1 F1 H1 C dd hcl py s1 r1
      cases q2 : sub c with
      | none => rw [q2] at k; exact k.elim
      | some b =>
        rw [q2] at k
        refine ⟨b, hsub c C b hcl q2, fun hb a ha => ?_, fun hb => ?_⟩
        · subst hb
          simp only at k
          split at k
          · rename_i hlt'
            rw [Bool.and_eq_true] at hlt'
            have hlt := of_decide_eq_true hlt'.2
            have hps : ps = [] := List.isEmpty_iff.mp hlt'.1
            have hdd : dd = none := by
              rcases py with ⟨_, e⟩ | ⟨_, _, e, _⟩
              · exact e
              · exact absurd hps e
            refine ⟨c, C, rfl, hcl, hdd, Z1, F1, _, e1.set i .pn, T, r1.enter (W' := ⟨X.K, cl.f, some (i, a)⟩) ⟨rfl, rfl⟩ hlt rfl, ?_⟩
            have k2 := PostS.step s1 k
            cases q3 : hd c (e1.set i .pn) with
            | nx e2 => rw [q3] at k2; exact fun σ2 Z2 F2 H2 s2 r2 => k2 _ Z2 F2 H2 s2 (r2.leave (W := Cx.wd X cl) ⟨rfl, rfl⟩ none r1.px)
            | bk e2 => rw [q3] at k2; exact fun σ2 Z2 F2 H2 s2 r2 => k2 _ Z2 F2 H2 s2 (r2.leave (W := Cx.wd X cl) ⟨rfl, rfl⟩ none r1.px)
            | ct e2 => rw [q3] at k2; exact fun σ2 Z2 F2 H2 s2 r2 => k2 _ Z2 F2 H2 s2 (r2.leave (W := Cx.wd X cl) ⟨rfl, rfl⟩ none r1.px)
            | rt o e2 =>
              rw [q3] at k2
              exact fun v σ2 Z2 F2 H2 s2 r2 => k2 v _ Z2 F2 H2 s2 (r2.leave (W := Cx.wd X cl) ⟨rfl, rfl⟩ none r1.px)
            | exc c ps e2 => rw [q3] at k2; exact k2.elim
            | bad => rw [q3] at k2; exact k2.elim
          · exact k.elim
        · subst hb
          exact k σ1 Z1 F1 H1 C dd hcl py s1 r1
/-- try: db; except X1: h1; except X2: h2 .. -/
def sTryM (db : En → Out) : List ((String → Option Bool) × (String → En → Out)) → En → Out
  | hs => fun e => match db e with
    | .exc c ps e1 => go c ps e1 hs
    | r => r
where go (c : String) (ps : List (Str × D)) (e1 : En) : List ((String → Option Bool) × (String → En → Out)) → Out
  | [] => .exc c ps e1
  | (sub, hd) :: r => match sub c with
    | some true => match hd c e1 with
      | .exc _ _ _ => .bad
      | o => o
    | some false => go c ps e1 r
    | none => .bad
inductive HHs (X : Cx) (cl : Cl) : List ExceptHandler → List ((String → Option Bool) × (String → En → Out)) → Prop
  | nil : HHs X cl [] []
  | cons {x : Str} {cv : Value} {b₀ : Stmt} {suite : List Stmt} {np pos' : Pos} {hds : List ExceptHandler} {l : List ((String → Option Bool) × (String → En → Out))} {sub : String → Option Bool} {hd : String → En → Out} (hc : Names X x cv)
      (hsub : ∀ c C b, cl.f c = some C → sub c = some b → PySem.W.exmOne X.K (.ref C) cv = some b)
      (hh : ∀ (c : String) (C a : Addr) (oe : Obj) (d : Option Addr) (pn : List (Addr × Obj)), cl.f c = some C → Zc (.ref C) d oe → (∃ vs, oe.data = .fields vs) → HSs (X.suite a ((a, oe) :: pn)) cl Wf (b₀ :: suite) (hd c)) (r : HHs X cl hds l) :
      HHs X cl (.ExceptHandler (some (.Name x np)) none (b₀ :: suite) pos' :: hds) ((sub, hd) :: l)
/-- the clauses' wishes, as readings -/
theorem hhs_of {hds : List ExceptHandler} {l} (h : HHs X cl hds l) : ∃ l' : List (Value × (Addr → Value → Option Addr → TS)), HdsOk X hds l' ∧
    ∀ (DE : Ends) (Z F : Addr → Prop) (P : Nat → V) (T : Ts) (H0 : Hp) (c : String) (ps : List (Str × D)) (e1 : En), PostS (Cx.wd X cl) Wo Z F P T H0 DE (sTryM.go c ps e1 l) → ∀ σ, XOk (Cx.wd X cl) (wMany X.K Wo DE l') Z F P T σ H0 c ps e1 := by
  induction h with
  | nil => exact ⟨[], .nil, fun D Z F P T H0 c ps e1 k => k⟩
  | @cons x cv b₀ suite np pos' hds l sub hd hc hsub hh r ih =>
    obtain ⟨l', h1, h2⟩ := ih
    refine ⟨(cv, fun a cls d D σ H => ∃ c C, cls = .ref C ∧ cl.f c = some C ∧ rdS (Cx.wd X cl) Wf (hd c) D σ H) :: l', .cons hc (fun a oe cls d pn hz hfl => ⟨fun pins s σ H D I ⟨c, C, ec, hcl, q⟩ => (hh c C a oe d pn hcl (by rw [← ec]; exact hz) hfl).run pins s σ H D I q⟩) h1, ?_⟩
    intro D Z F P T H0 c ps e1 k σ Z1 F1 H1 C dd hcl py s1 r1
    unfold sTryM.go at k
    cases q2 : sub c with
    | none => rw [q2] at k; exact k.elim
    | some b =>
      rw [q2] at k
      refine ⟨b, hsub c C b hcl q2, fun hb a ha => ?_, fun hb => ?_⟩
      · subst hb
        simp only at k
        refine ⟨c, C, rfl, hcl, Z1, F1, P, e1, T, r1, ?_⟩
        have k2 := PostS.step s1 k
        cases q3 : hd c e1 with
        | exc c ps e2 => rw [q3] at k2; exact k2.elim
        | nx e2 => rw [q3] at k2; exact k2
        | rt o e2 => rw [q3] at k2; exact k2
        | bk e2 => rw [q3] at k2; exact k2
        | ct e2 => rw [q3] at k2; exact k2
        | bad => rw [q3] at k2; exact k2
      · subst hb
        exact h2 D Z F P T H0 c ps e1 k σ Z1 F1 H1 C dd hcl py s1 r1
theorem hs_try {body : List Stmt} {h₀ : ExceptHandler} {hds : List ExceptHandler} {l} {db : En → Out} (hs : X.stack = X.env :: X.outer) (hf : X.env.frame = some X.env.locals) (tk : Takes X Wo)
    (hb : ∀ (W' : WX) (pn : List (Addr × Obj)) (xe : Value → Shared → Prop), Takes (X.tr pn xe) W' → PassesOwn (model X.prog X.w) X.A X.env xe → HSs (X.tr pn xe) cl W' body db)
    (hh : HHs X cl (h₀ :: hds) l) : HS X cl Wo (.Try body (h₀ :: hds) [] [] pos) (sTryM db l) := by
  obtain ⟨l', hok, hw⟩ := hhs_of (Wo := Wo) hh
  exact PS.imp (ps_try_many (tb := fun W' => rdS (Cx.wd X cl) W' db) hs hf tk hb hok) fun D σ H ⟨Z, F, P, e, T, r, k⟩ => by
    refine ⟨Z, F, P, e, T, r, ?_⟩
    unfold sTryM at k
    cases q : db e with
    | nx e1 => rw [q] at k; exact k
    | rt o e1 => rw [q] at k; exact k
    | bk e1 => rw [q] at k; exact k
    | ct e1 => rw [q] at k; exact k
    | bad => rw [q] at k; exact k
    | exc c ps e1 =>
      rw [q] at k
      exact hw D Z F P T H c ps e1 k
/-! ### isinstance(e, X) in the suite -/
def dIsE (i : Nat) (b : Bool) : En → Rs O := fun e => match e[i]? with
  | some .pn => .ok (.d (.bl b)) e
  | _ => .bad
theorem he_isE {a C : Addr} {oe : Obj} {pn : List (Addr × Obj)} {i : Nat} {x y : Str} {n p p2 pos : Pos} {cv : V} {cu : Value} {b : Bool} (hE : ExcC X.K C) (hz : Zc (.ref C) none oe) (hfl : ∃ vs, oe.data = .fields vs) (hg : Gl (X.suite a ((a, oe) :: pn)) "isinstance") (hm : X.mg "isinstance" = none)
    (hx : PE (X.suite a ((a, oe) :: pn)) (.Name x p) (tVar i)) (hy : PE (X.suite a ((a, oe) :: pn)) (.Name y p2) (tC cv)) (hcv : ∀ u, RelV cv u → u = cu) (hk : PySem.W.kitOne X.K (.ref C) cu = some b)
    (h1 : starEach [.Name x p, .Name y p2] X.env = (false, eval (.Name x p) X.env) :: starEach [.Name y p2] X.env := by rfl) (h2 : starEach [.Name y p2] X.env = (false, eval (.Name y p2) X.env) :: starEach [] X.env := by rfl) (hpl : (backTo pos (starEach [.Name y p2] X.env)).any (·.1) = false := by rfl) :
    HE (X.suite a ((a, oe) :: pn)) ⟨cl.f, some (i, a)⟩ Wo (.Call (.Name "isinstance" n) [.Name x p, .Name y p2] [] pos) (dIsE i b) := by
  refine PE.imp (pe_callB (call_isE hE hz hfl) hg hm rfl (pa_cons hx (pa_cons hy pa_nil h2) h1) (by decide) (by decide) h1 hpl) fun σ H Q ⟨Z, F, P, e, T, r, k⟩ => ?_
  unfold dIsE at k
  split at k
  · rename_i hs
    have h3 := r.pin i .pn hs rfl
    rw [r.px i a rfl] at h3
    exact ⟨.ref a, h3, cv, cu, b, rfl, hcv, hk, k (.bl b) Z F H .refl (r.push (x := .bl b) rfl)⟩
  · exact k.elim
end
end MX

/-! MXi: dict displays. -/
namespace MX
open PySem L2
section
variable {X : Cx} {cl : Cl} {Wo : WX} {pos : Pos}
variable {W W' : Wd} {Z F Z' F' : Addr → Prop} {P P' : Nat → V} {e : En} {T : Ts} {σ : L2.St} {H H' : Hp} {Q : VK}
theorem RS.newDic {p : Addr} (r : RS W Z F P e T σ H) (hp : H p = none) : RS W Z (fun a => F a ∨ a = p) P e ((.dic [] [], .ref p) :: T) σ (upd H p (.dK [])) := by
  obtain ⟨⟨fe, ft, h1, h2, nd, hF⟩, sep, zin, fin, pin, px⟩ := r
  have k := same_upd (o := .dK []) hp
  have kp : Kp H Z (upd H p (.dK [])) Z := ⟨fun _ h => h, fun a o _ h => k a o h, fun a _ h => k a _ h, fun a _ _ h => k a _ h⟩
  have pF : ∀ a, F a → a ≠ p := fun a fa z => by subst z; exact notMut_none hp (fin a fa)
  refine ⟨⟨fe, p :: ft, h1.keep kp _ _ _ fun a _ u q => k a u q, ⟨.ref p, _, [p], ft, rfl, rfl, ⟨p, [], [], rfl, upd_same, rfl, List.nodup_nil, rfl, rfl, rfl⟩, h2.keep kp _ _ _ fun a _ u q => k a u q⟩, ?_, fun a ha => ?_⟩, fun a ha z => ?_, fun a z q => ?_, fun a ha => ?_, pin, px⟩
  · rw [List.perm_middle.nodup_iff, List.nodup_cons]
    exact ⟨fun z => pF p (hF p z) rfl, nd⟩
  · rcases List.mem_append.mp ha with q | q
    · exact .inl (hF a (List.mem_append_left _ q))
    · rcases List.mem_cons.mp q with q | q
      · exact .inr q
      · exact .inl (hF a (List.mem_append_right _ q))
  · rcases ha with ha | ha
    · exact sep a ha z
    · subst ha; exact zin a z hp
  · exact dom_upd a (zin a z) q
  · rcases ha with ha | ha
    · rw [upd_ne (pF a ha)]; exact fin a ha
    · rw [ha, upd_same]; trivial
/-- an empty dict that is held takes the held items -/
theorem RS.fillDic {ks : List Key} {os : List O} {vs : List V} {p : Addr} (r : RS W Z F P e (os.zip vs ++ ((.dic [] [], .ref p) :: T)) σ H) (hl : os.length = vs.length) (hk : ks.length = vs.length) (nd : ks.Nodup) :
    H p = some (.dK []) ∧ Stp Z F H Z F (upd H p (.dK (ks.zip vs))) ∧ RS W Z F P e ((.dic ks os, .ref p) :: T) σ (upd H p (.dK (ks.zip vs))) := by
  have r0 := r.appPop
  obtain ⟨f, ⟨a', kvs, f', ev, hh, e1, ndk, _, hc⟩, _⟩ := r0.top
  cases ev
  have e0 : kvs = [] := List.map_eq_nil_iff.mp e1
  subst e0
  refine ⟨hh, ?_⟩
  have r' : RS W Z F P e (((os.zip vs) ++ [(.dic [] [], .ref p)] : Ts) ++ T) σ H := by rw [List.append_assoc]; exact r
  refine RS.write (C' := [(.dic ks os, .ref p)]) (o := .dK (ks.zip vs)) r' trivial (fun fC hC => ?_) (fun kp fC hC ndC => ?_)
  · rw [List.map_append, List.map_append] at hC
    obtain ⟨vs', us, f1, f2, ew, ef, a1, a2⟩ := hC.split
    obtain ⟨v, rr, g1, g2, ev, eg, ⟨a', us', f3, ev', _, _, _, e3, _⟩, _⟩ := a2
    have e0 : v = .ref p := by
      have hl2 : vs'.length = ((os.zip vs).map (·.2)).length := by rw [← a1.len, List.length_map, List.length_map]
      have e4 := List.append_inj ew hl2.symm
      have e5 := e4.2
      rw [ev] at e5
      exact (List.cons.inj e5).1.symm
    rw [e0] at ev'
    cases ev'
    rw [ef, eg, e3]
    exact List.mem_append_right _ (List.mem_append_left _ List.mem_cons_self)
  · rw [List.map_append, List.map_append, List.map_fst_zip (Nat.le_of_eq hl), List.map_snd_zip (Nat.le_of_eq hl.symm)] at hC
    obtain ⟨vs', us, f1, f2, ew, ef, a1, a2⟩ := hC.split
    have hl2 : vs'.length = vs.length := by rw [← a1.len, hl]
    have e4 := List.append_inj ew hl2.symm
    obtain ⟨rfl, rfl⟩ : vs' = vs ∧ us = [V.ref p] := ⟨e4.1.symm, e4.2.symm⟩
    obtain ⟨a', kvs', f3, ev', hh', e1', ndk', e3, hcs⟩ := ros_one a2
    cases ev'
    rw [hh] at hh'
    cases hh'
    subst ef e3
    have nd1 := List.nodup_append.mp ndC
    have na : ∀ b ∈ f1, b ≠ p := fun b hb q => nd1.2.2 b hb p List.mem_cons_self q
    have e5 : (ks.zip vs').map (·.1) = ks := List.map_fst_zip (Nat.le_of_eq hk)
    have e6 : (ks.zip vs').map (·.2) = vs' := List.map_snd_zip (Nat.le_of_eq hk.symm)
    refine ⟨p :: f1, ROs.one ⟨p, ks.zip vs', f1, rfl, upd_same, e5, nd, rfl, ?_⟩, List.nodup_cons.mpr ⟨fun z => na p z rfl, nd1.1⟩, fun b hb => ?_⟩
    · rw [e6]
      exact a1.keep kp _ _ _ fun b hb u hu => by rw [upd_ne (na b hb)]; exact hu
    · rcases List.mem_cons.mp hb with q | q
      · rw [q]; exact List.mem_append_right _ List.mem_cons_self
      · exact List.mem_append_left _ q
def aAll : List (En → Rs O) → En → Rs (List O)
  | [] => aNil
  | d :: ds => aCons d (aAll ds)
theorem tPairs_of : ∀ {ks : List Key} {ds : List (En → Rs O)} {σ : L2.St} {H : Hp} {K : List V → Hp → Prop}, ks.length = ds.length → rdA W Wo (aAll ds) σ H K →
    tPairs ((ks.zip ds).map fun kd => (tC (kV kd.1), rdE W Wo kd.2)) σ H fun ps H2 => ∃ vs, ps = (ks.zip vs).map (fun kv => (kV kv.1, kv.2)) ∧ vs.length = ks.length ∧ K vs H2
  | [], [], σ, H, K, _, h => by
    obtain ⟨Z, F, P, e, T, r, k⟩ := h
    exact ⟨[], rfl, rfl, k [] Z F H rfl .refl r⟩
  | [], _ :: _, _, _, _, h, _ => by cases h
  | _ :: _, [], _, _, _, h, _ => by cases h
  | k :: ks, d :: ds, σ, H, K, hl, h => by
    have h1 := rdA_cons (g := fun o os => o :: os) (gv := fun v vs => v :: vs) (fun o os v vs h => by rw [List.length_cons, List.length_cons, h]) (fun o os v vs h => by
      rw [List.zip_cons_cons]
      exact List.perm_append_comm) h
    show rdE W Wo d σ H fun y H2 => _
    obtain ⟨Z, F, P, e, T, r, q⟩ := h1
    refine ⟨Z, F, P, e, T, r, ?_⟩
    have mono : ∀ {r : Rs O} {Q Q' : VK}, (∀ v H, Q v H → Q' v H) → PostE W Wo Z F P T σ H Q r → PostE W Wo Z F P T σ H Q' r := fun {r Q Q'} hm hp => by
      cases r with
      | ok o e => exact fun v Z' F' H' s r => hm _ _ (hp v Z' F' H' s r)
      | exc c ps e => exact hp
      | bad => exact hp
    refine mono (fun v H2 hv => ?_) q
    have h2 := tPairs_of (ks := ks) (ds := ds) (Nat.succ.inj hl) hv
    have gen : ∀ (trs : List (TE × TE)) (σ : L2.St) (H : Hp) (K1 K2 : List (V × V) → Hp → Prop), (∀ ps H, K1 ps H → K2 ps H) → (∀ te ∈ trs.map (·.2), ∀ σ H Q Q', (∀ v H, Q v H → Q' v H) → te σ H Q → te σ H Q') → (∀ te ∈ trs.map (·.1), ∀ σ H Q Q', (∀ v H, Q v H → Q' v H) → te σ H Q → te σ H Q') → tPairs trs σ H K1 → tPairs trs σ H K2 := by
      intro trs
      induction trs with
      | nil => exact fun σ H K1 K2 hk _ _ h => hk _ _ h
      | cons t trs ih =>
        intro σ H K1 K2 hk m2 m1 h
        obtain ⟨tk, tv⟩ := t
        refine m1 tk (List.mem_cons_self) σ H _ _ (fun x H1 h => ?_) h
        refine m2 tv (List.mem_cons_self) σ H1 _ _ (fun y H2 h => ?_) h
        exact ih σ H2 _ _ (fun ps H hp => hk _ _ hp) (fun te ht => m2 te (List.mem_cons_of_mem _ ht)) (fun te ht => m1 te (List.mem_cons_of_mem _ ht)) h
    refine gen _ σ H2 _ _ (fun ps H3 ⟨vs, e1, e2, e3⟩ => ⟨v :: vs, by rw [e1]; rfl, by rw [List.length_cons, List.length_cons, e2], e3⟩) (fun te ht => ?_) (fun te ht => ?_) h2
    · rw [List.map_map] at ht
      obtain ⟨kd, _, rfl⟩ := List.mem_map.mp ht
      rintro σ H Q Q' hm ⟨Z, F, P, e, T, r, q⟩
      refine ⟨Z, F, P, e, T, r, ?_⟩
      show PostE W Wo Z F P T σ H Q' (kd.2 e)
      have q' : PostE W Wo Z F P T σ H Q (kd.2 e) := q
      cases q3 : kd.2 e with
      | ok o e => rw [q3] at q'; exact fun v Z' F' H' s r => hm _ _ (q' v Z' F' H' s r)
      | exc c ps e => rw [q3] at q'; exact q'
      | bad => rw [q3] at q'; exact q'
    · rw [List.map_map] at ht
      obtain ⟨kd, _, rfl⟩ := List.mem_map.mp ht
      exact fun σ H Q Q' hm h => hm _ _ h
theorem mergeK_nd : ∀ {more kvs : List (Key × V)}, ((kvs ++ more).map (·.1)).Nodup → mergeK kvs more = kvs ++ more
  | [], kvs, _ => by rw [List.append_nil]; rfl
  | p :: more, kvs, h => by
    have hn : valV kvs p.1 = none := by
      cases q : valV kvs p.1 with
      | none => rfl
      | some v =>
        exfalso
        have := valV_in q
        rw [List.map_append, List.nodup_append] at h
        exact h.2.2 p.1 this p.1 (by rw [List.map_cons]; exact List.mem_cons_self) rfl
    show mergeK (putK kvs p.1 p.2) more = kvs ++ p :: more
    rw [putK_new p.2 hn, mergeK_nd (by rw [List.append_assoc]; exact h), List.append_assoc]
    rfl
def dDisp (ks : List Key) (ds : List (En → Rs O)) : En → Rs O := fun e => (aAll ds e).bind fun os e1 => .ok (.dic ks os) e1
theorem aAll_len : ∀ {ds : List (En → Rs O)} {e e1 : En} {os : List O}, aAll ds e = .ok os e1 → os.length = ds.length
  | [], e, e1, os, h => by cases h; rfl
  | d :: ds, e, e1, os, h => by
    have h : (aCons d (aAll ds)) e = .ok os e1 := h
    unfold aCons at h
    cases q : d e with
    | bad => rw [q] at h; cases h
    | exc c ps e' => rw [q] at h; cases h
    | ok o e2 =>
      rw [q] at h
      simp only [Rs.bind_ok] at h
      cases q2 : aAll ds e2 with
      | bad => rw [q2] at h; cases h
      | exc c ps e' => rw [q2] at h; cases h
      | ok os' e3 =>
        rw [q2] at h
        cases h
        rw [List.length_cons, List.length_cons, aAll_len q2]
theorem he_disp {keys : List (Option Expr)} {values : List Expr} {ks : List Key} {ds : List (En → Rs O)} (h : PPs X pos keys values ((ks.zip ds).map fun kd => (tC (kV kd.1), rdE (Cx.wd X cl) Wo kd.2))) (hl : ks.length = ds.length := by rfl) (hn : ks.Nodup := by decide) (h15k : ks.length ≤ 15 := by decide)
    (hall : keys.all (·.isSome) = true := by rfl) (hkv : keys.length = values.length := by rfl) (h0 : keys ≠ [] := by simp) (h15 : keys.length ≤ 15 := by decide) : HE X cl Wo (.Dict keys values pos) (dDisp ks ds) :=
  PE.imp (pe_disp h hall hkv h0 h15) fun σ H Q ⟨Z, F, P, e, T, r, k⟩ p hp => by
    have r1 := r.newDic hp
    have h1 : rdA (Cx.wd X cl) Wo (aAll ds) σ (upd H p (.dK [])) fun vs H2 => H2 p = some (.dK []) ∧ (vs.length = ks.length → Q (.ref p) (upd H2 p (.dK (ks.zip vs)))) := by
      refine ⟨Z, _, P, e, (.dic [] [], .ref p) :: T, r1, ?_⟩
      unfold dDisp at k
      cases q : aAll ds e with
      | bad => rw [q] at k; exact k.elim
      | exc c ps e1 => rw [q] at k; exact XOk.popped (XOk.step (Stp.allocF hp) k)
      | ok os e1 =>
        rw [q] at k
        simp only [Rs.bind_ok] at k
        intro vs Z1 F1 H1 hlen s1 r2
        have h2 : ks.length = vs.length := by rw [← hlen, aAll_len q, hl]
        obtain ⟨b1, b2, b3⟩ := r2.fillDic (ks := ks) hlen h2 hn
        exact ⟨b1, fun _ => k _ Z1 F1 _ (((Stp.allocF hp).trans s1).trans b2) b3⟩
    have h2 := tPairs_of (ks := ks) hl h1
    have gen : ∀ (trs : List (TE × TE)) (σ : L2.St) (H : Hp) (K1 K2 : List (V × V) → Hp → Prop), (∀ ps H, K1 ps H → K2 ps H) → (∀ te ∈ trs.map (·.2), ∀ σ H Q Q', (∀ v H, Q v H → Q' v H) → te σ H Q → te σ H Q') → (∀ te ∈ trs.map (·.1), ∀ σ H Q Q', (∀ v H, Q v H → Q' v H) → te σ H Q → te σ H Q') → tPairs trs σ H K1 → tPairs trs σ H K2 := by
      intro trs
      induction trs with
      | nil => exact fun σ H K1 K2 hk _ _ h => hk _ _ h
      | cons t trs ih =>
        intro σ H K1 K2 hk m2 m1 h
        obtain ⟨tk, tv⟩ := t
        refine m1 tk (List.mem_cons_self) σ H _ _ (fun x H1 h => ?_) h
        refine m2 tv (List.mem_cons_self) σ H1 _ _ (fun y H2 h => ?_) h
        exact ih σ H2 _ _ (fun ps H hp => hk _ _ hp) (fun te ht => m2 te (List.mem_cons_of_mem _ ht)) (fun te ht => m1 te (List.mem_cons_of_mem _ ht)) h
    refine gen _ σ _ _ _ ?_ (fun te ht => ?_) (fun te ht => ?_) h2
    · rintro ps H3 ⟨vs, e1, e2, e3, e4⟩
      refine ⟨e3, ks.zip vs, e1, ?_, ?_⟩
      · rw [List.length_zip, e2, Nat.min_self]; exact h15k
      · rw [mergeK_nd (by rw [List.nil_append, List.map_fst_zip (Nat.le_of_eq e2.symm)]; exact hn), List.nil_append]
        exact e4 e2
    · rw [List.map_map] at ht
      obtain ⟨kd, _, rfl⟩ := List.mem_map.mp ht
      rintro σ H Q Q' hm ⟨Z, F, P, e, T, r, q⟩
      refine ⟨Z, F, P, e, T, r, ?_⟩
      show PostE _ Wo Z F P T σ H Q' (kd.2 e)
      have q' : PostE (Cx.wd X cl) Wo Z F P T σ H Q (kd.2 e) := q
      cases q3 : kd.2 e with
      | ok o e => rw [q3] at q'; exact fun v Z' F' H' s r => hm _ _ (q' v Z' F' H' s r)
      | exc c ps e => rw [q3] at q'; exact q'
      | bad => rw [q3] at q'; exact q'
    · rw [List.map_map] at ht
      obtain ⟨kd, _, rfl⟩ := List.mem_map.mp ht
      exact fun σ H Q Q' hm h => hm _ _ h
end
end MX

/-! MXj: what the printed walks lean on. -/
namespace MX
open PySem L2 PySem.Spec PyProof.Rows
section
variable {X : Cx} {cl : Cl} {Wo : WX} {pos : Pos}
variable {W W' : Wd} {Z F Z' F' : Addr → Prop} {P P' : Nat → V} {e : En} {T : Ts} {σ : L2.St} {H H' : Hp} {Q : VK}
theorem CallOk.or {f g : List O → Option O} {r r' : List V → Hp → VK → Prop} (a : CallOk W f r) (b : CallOk W g r') : CallOk W (fun xs => match f xs with | some z => some z | none => g xs) (fun xs H Q => r xs H Q ∨ r' xs H Q) := by
  intro Z F P e T σ H os z vs Q hf ss rs k
  cases q : f os with
  | some w => simp only [q] at hf; exact .inl (a Z F P e T σ H os w vs Q q ss rs (by rw [Option.some.inj hf]; exact k))
  | none => simp only [q] at hf; exact .inr (b Z F P e T σ H os z vs Q hf ss rs k)
/-- len of an owned dict -/
def fLenD : O → Option O
  | .dic ks xs => some (.d (.int ks.length))
  | _ => none
theorem cLenD : CallOk W (on1 fLenD) (fun xs H Q => ∃ a kvs, xs = [V.ref a] ∧ H a = some (.dK kvs) ∧ Q (.int kvs.length) H) := by
  intro Z F P e T σ H os z vs Q hf ss rs k
  obtain ⟨o, rfl, hg⟩ := on1_some hf
  clear hf
  obtain ⟨v, rfl, s⟩ := ss.one
  unfold fLenD at hg
  split at hg
  · rename_i ks xs
    cases hg
    obtain ⟨f, a, kvs, f', e, hh, e1, _⟩ := s
    refine ⟨a, kvs, by rw [e], hh, ?_⟩
    have : kvs.length = ks.length := by rw [← e1, List.length_map]
    rw [this]
    exact done_leaf (x := .int ks.length) rs (fun _ _ => rfl) k
  · cases hg
def fLenU (xs : List O) : Option O := match on1 fLen xs with
  | some z => some z
  | none => match on1 fLenS xs with
    | some z => some z
    | none => on1 fLenD xs
theorem cLenU : CallOk W fLenU (fun xs H Q => (∃ p ys, xs = [V.ref p] ∧ (SqL W.K H p ys ∨ SqT W.K H p ys) ∧ Q (.int ys.length) H) ∨ ((∃ z, xs = [V.str z] ∧ z.length ≤ sizeLine ∧ Q (.int z.length) H) ∨ ∃ a kvs, xs = [V.ref a] ∧ H a = some (.dK kvs) ∧ Q (.int kvs.length) H)) :=
  CallOk.or cLen (CallOk.or cLenS cLenD)
/-- a built-in type's name as a value -/
theorem he_ty {x : Str} {n : String} (hg : Gl X x) (hm : X.mg x = none) (hv : bootBuiltins x = some (.type n)) (hn : x ≠ "__name__" := by decide) (hd : (x == ("__debug__" : Str)) = false := by decide) : HE X cl Wo (.Name x pos) (dC (.ty n)) :=
  he_C (pe_bltn (v := .ty n) hg hm hv rfl hn hd) fun _ _ => rfl
theorem pe_bty {x : Str} {n : String} (hg : Gl X x) (hm : X.mg x = none) (hv : bootBuiltins x = some (.type n)) (hn : x ≠ "__name__" := by decide) (hd : (x == ("__debug__" : Str)) = false := by decide) : PE X (.Name x pos) (tC (.ty n)) := pe_bltn (v := .ty n) hg hm hv rfl hn hd
/-- how arguments come to parameters, from the def's text -/
theorem KB.of {K : PySem.W.Frag} {x qual : Str} {st : Stmt} {f : Addr} {fd : FuncData} {ps ks : List Str} {n0 n1 : Nat} {p : List Nat} (Fn : Fun K x qual st f fd)
    (h : ∀ (kV doc pm : Value) (an : Option Addr) (cdv ct : Value) (us ws : List Value), us.length = n0 → ws.length = n1 → bindArgs (PySem.W.fnOf x qual (defArgs st) (defBody st) (defScope st) .none kV doc pm an cdv ct) ⟨us, ks.zip ws⟩ = pure (ps.zip (ord p (us ++ ws))))
    (pm : p.Perm (List.range (n0 + n1))) : KB K fd ps ks n0 n1 p := by
  obtain ⟨oc, od, kV, doc, pm', an, cdv, ct, osl, rfl, lk, hcd⟩ := Fn.ex
  exact ⟨fun s us ws _ h0 h1 => .of_eq (h kV doc pm' an cdv ct us ws h0 h1), pm⟩
/-- a def that promises nothing -/
theorem FnOk.bad {Pg : Program} {w : World} {K : PySem.W.Frag} {mg : Str → Option Value} {base : Heap} {Wd0 : Wd} {x qual : Str} {st : Stmt} {f : Addr} {fd : FuncData} {N ps : List Str} {k n : Nat} (Fn : Fun K x qual st f fd) (S : FnScope N ps (defScope st)) :
    FnOk Pg w K mg base (L2.CX Pg w) k f fd ps (spD Wd0 n fun _ => .bad) :=
  ⟨fun vs H Q E ⟨_, _, _, _, _, _, _, h⟩ => h.elim, fun A outer s H args us vs Q E hr he hb hv ⟨_, _, _, _, _, _, _, h⟩ => h.elim⟩
/-- tuple(range(a, b, c)) -/
def fRg3 (xs : List O) : Option O := (gR3 xs).map fun ds => .d (.tup ds)
def rTupRg3 : List V → Hp → VK → Prop := fun vs H Q => ∃ (i j c : Int) (n : Nat), vs = [.int i, .int j, .int c] ∧ RgC i j c n ∧ n ≤ 2 ^ 24 ∧ ∀ p o, H p = none → o.dict = none → Q (.ref p) (upd H p (.frz o (.tup ((List.range n).map fun (k : Nat) => V.int (i + (k : Int) * c)))))
theorem pe_tupRg3 {a b c : Expr} {ta : TA} {p p2 pos2 : Pos} (hcalm : X.calm = true) (hgt : Gl X "tuple") (hmt : X.mg "tuple" = none) (hg : Gl X "range") (hm : X.mg "range" = none) (ha : PA X [a, b, c] ta)
    (hs : starEach [a, b, c] X.env = (false, eval a X.env) :: starEach [b, c] X.env := by rfl) (hpl : (backTo pos2 (starEach [b, c] X.env)).any (·.1) = false := by rfl)
    (na : starEach [.Call (.Name "range" p) [a, b, c] [] pos2] X.env = (false, eval (.Call (.Name "range" p) [a, b, c] [] pos2) X.env) :: starEach [] X.env := by rfl) :
    PE X (.Call (.Name "tuple" p2) [.Call (.Name "range" p) [a, b, c] [] pos2] [] pos) (fun σ H Q => ta σ H fun vs H1 => rTupRg3 vs H1 Q) := by
  refine ⟨fun pins s σ H Q I h => ?_⟩
  refine Call_ (ld_blt I hgt hmt boot_tuple (PyProof.Rows.callWith_type1 (args_cons ?_ na) na))
  refine Call_ (ld_blt I hg hm boot_range (PyProof.Rows.callWith_type1 (thn (ha.run pos2 pins s σ H _ I h) fun us s1 ⟨vs, H1, I1, r1, q1⟩ => ?_) hs hpl))
  obtain ⟨i, j, k, n, ev, ⟨c0, c1, c2, c3⟩, hn, q⟩ := q1
  subst ev
  cases r1 with
  | cons r rr =>
    cases rr with
    | cons r' rr =>
      cases rr with
      | cons r'' rr =>
        cases rr
        obtain ⟨t, rfl⟩ := r
        obtain ⟨t', rfl⟩ := r'
        obtain ⟨t'', rfl⟩ := r''
        refine call_range_3 c0 ?_ (.inl (PyProof.noPylong_small c1))
        refine args_nil ?_
        refine call_tuple_range (I1.ok.hd hcalm) (IsRange.new ..) c2 c3 hn fun h' tk acc hk hi => ?_
        have I2 : Inv X pins σ H1 { s1 with heap := h', toks := tk } := I1.kept fun b o e => hk _ _ (Heap.get?_push_of_some _ e)
        have hv : Vals ((List.range n).map fun (m : Nat) => V.int (i + (m : Int) * k)) acc.toList := by
          have el : acc.toList.length = n := by rw [Array.length_toList]; exact hi.1
          rw [← el]
          refine vals_of_get acc.toList _ fun j u hj => ?_
          obtain ⟨t, rfl⟩ := hi.2 j u (by rw [← hj, Array.getElem?_toList])
          exact ⟨t, rfl⟩
        refine ⟨.ref h'.objs.size, upd H1 h'.objs.size (.frz _ (.tup _)), I2.laid (t' := tk) (fun c o e => Heap.get?_push_of_some _ e) (Nat.le_refl _) ⟨Heap.get?_push_size _ rfl, ?_, acc.toList, hv, ?_⟩, rfl, q _ _ (I2.hok.fresh (Nat.le_refl _)) rfl⟩
        · rw [List.length_map, List.length_range, sizeLine_eq]; omega
        · rw [Array.toArray_toList]; exact IsTup.new _ _
def fTupRg3 : List O → Option O
  | [.d (.int i), .d (.int j), .d (.int c)] => if c ≠ 0 ∧ c.natAbs < 1073741824 ∧ Builtin.Range.small i j c = true ∧ Builtin.Range.rangeSize i j c ≤ 2 ^ 24 then some (.d (.tup (stepD i c (Builtin.Range.rangeSize i j c).toNat))) else none
  | _ => none
theorem rgsz {i j c : Int} : 0 ≤ Builtin.Range.rangeSize i j c := by
  unfold Builtin.Range.rangeSize
  split
  · split
    · have : 0 ≤ (j - i - 1) / c := Int.ediv_nonneg (by omega) (by omega)
      omega
    · omega
  · split
    · have : 0 ≤ (i - j - 1) / (-c) := Int.ediv_nonneg (by omega) (by omega)
      omega
    · omega
theorem rds_step {lo c : Int} {n : Nat} : RDs W H Z (stepD lo c n) ((List.range n).map fun (k : Nat) => V.int (lo + (k : Int) * c)) := by
  unfold stepD
  generalize List.range n = l
  induction l with
  | nil => exact rfl
  | cons x l ih => exact ⟨_, _, rfl, rfl, ih⟩
theorem cTupRg3 : CallOk W fTupRg3 rTupRg3 := by
  intro Z F P e T σ H os z vs Q hf ss rs k
  unfold fTupRg3 at hf
  split at hf
  · rename_i i j c
    split at hf
    · rename_i hb; cases hf
      obtain ⟨v, u, w, rfl, s, s', s''⟩ := ss.three
      have h0 := rgsz (i := i) (j := j) (c := c)
      refine ⟨i, j, c, _, by rw [s.int, s'.int, s''.int], ⟨hb.1, hb.2.1, hb.2.2.1, (Int.toNat_of_nonneg h0).symm⟩, by have := hb.2.2.2; omega, fun p o hp ho => k _ _ _ _ (Stp.alloc hp) (rs.newT rds_step hp ho)⟩
    · cases hf
  · cases hf
def dTRg3 (d : En → Rs (List Ar)) : En → Rs O := dCall fTupRg3 d
theorem he_tupRg3 {a b c : Expr} {d} {p p2 pos2 : Pos} (hcalm : X.calm = true) (hgt : Gl X "tuple") (hmt : X.mg "tuple" = none) (hg : Gl X "range") (hm : X.mg "range" = none) (ha : HVs X cl Wo [a, b, c] d)
    (hs : starEach [a, b, c] X.env = (false, eval a X.env) :: starEach [b, c] X.env := by rfl) (hpl : (backTo pos2 (starEach [b, c] X.env)).any (·.1) = false := by rfl)
    (na : starEach [.Call (.Name "range" p) [a, b, c] [] pos2] X.env = (false, eval (.Call (.Name "range" p) [a, b, c] [] pos2) X.env) :: starEach [] X.env := by rfl) :
    HE X cl Wo (.Call (.Name "tuple" p2) [.Call (.Name "range" p) [a, b, c] [] pos2] [] pos) (dTRg3 d) :=
  PE.imp (pe_tupRg3 hcalm hgt hmt hg hm ha hs hpl na) fun σ H Q h => rdCall cTupRg3 h
theorem hs_setLc2 {i : Nat} {st : Stmt} {own : List (Str × Nat)} {vs1 : List Nat} {di di1} {t t1 : Tg} {dc dc1} {de} (hv : ∀ i ∈ vs1, i ∈ own.map (·.2))
    (h : PS X st (tAsg (tLc2 (rdI (Cx.wd X cl) Wo di) (rdG (Cx.wd X cl) (own.map (·.2)) t) (rdT (Cx.wd X cl) Wf dc) (rdI (Cx.wd X cl) Wf di1) (rdG (Cx.wd X cl) vs1 t1) (rdT (Cx.wd X cl) Wf dc1) (rdE (Cx.wd X cl) Wf de) (own.map (·.2)) vs1) (L2.gName i))) :
    HS X cl Wo st (sAsg (dLc2 di (own.map (·.2)) t dc di1 vs1 t1 dc1 de) (tName i)) :=
  PS.imp h fun D σ H h => rdLc2 hv (rdE_out h fun Z F P e T o v H1 r k => by
    split at k
    · rename_i e2 q; exact k _ Z F H1 .refl (r.store q)
    · exact k.elim)
end
end MX

/-! MXk: the law's own head. -/
namespace MX
open PySem L2 PySem.Spec PyProof.Rows
/-- nothing written is a list -/
def noList (K : PySem.W.Frag) : Bool := K.all fun p => p.2.cls != .type "list"
theorem lookup_mem {K : PySem.W.Frag} {a : Addr} {o : Obj} (h : K.lookup a = some o) : (a, o) ∈ K := by
  induction K with
  | nil => cases h
  | cons p K ih =>
    obtain ⟨b, u⟩ := p
    rw [List.lookup_cons] at h
    by_cases q : a == b
    · rw [q] at h
      cases h
      rw [beq_iff_eq.mp q]
      exact List.mem_cons_self
    · have : (a == b) = false := by simpa using q
      rw [this] at h
      exact List.mem_cons_of_mem _ (ih h)
theorem rd_of {K : PySem.W.Frag} {H : Hp} {a : Addr} {xs : List V} (nl : noList K = true) (h : SqL K H a xs) : Rd H a (.lst xs) := by
  rcases h with h | ⟨o, its, n, hk, hc, _⟩
  · exact h
  · have := List.all_eq_true.mp nl _ (lookup_mem hk)
    rw [hc] at this
    cases this
def spLaw (K : PySem.W.Frag) : Sp := fun vs H Q _ => ∃ (a : Addr) (ns : List Int), vs = [.ref a] ∧ SqL K H a (ns.map V.int) ∧ ns.length ≤ 63 ∧ ∀ H', Q (.bl true) H'
theorem top_imp {K : PySem.W.Frag} {cf : String → Option Addr} {den : Den} (nl : noList K = true) (h : ∀ ns : List Int, ns.length ≤ 63 → ∃ ps, den [.d (.lst (ns.map D.int))] = .ok (.d (.bl true)) ps) (vs : List V) (H : Hp) (Q : VK) (E : XK) (q : spLaw K vs H Q E) :
    spD ⟨K, cf, none⟩ 1 den vs H Q E := by
  obtain ⟨a, ns, rfl, hS, hl, k⟩ := q
  have hr := rd_of nl hS
  obtain ⟨ps, hd⟩ := h ns hl
  have hn : H a ≠ none := by
    rcases hr with hr | ⟨o, hr⟩
    · rw [hr]; simp
    · rw [hr]; simp
  refine ⟨fun b => b = a, fun _ => False, fun _ => .non, [.d (.lst (ns.map D.int))], ⟨⟨[], [], ⟨rfl, rfl⟩, ⟨.ref a, [], [], [], rfl, rfl, ⟨⟨a, _, rfl, ⟨rfl, hr⟩, ints_rds⟩, rfl⟩, rfl, rfl⟩, List.nodup_nil, fun _ h => nomatch h⟩, fun _ h => h.elim, fun b hb => by rw [hb]; exact hn, fun _ h => h.elim, fun i s h => by simp at h, fun i b h => by cases h⟩, rfl, rfl, ?_⟩
  rw [hd]
  exact fun v Z' F' H' P' s r => by
    have : v = .bl true := r.topD
    rw [this]
    exact k H'
end MX

namespace K73
open PySem L2 MX
def topS (i : Nat) : Stmt := PySem.Challenge.pw_hushsheets_k73_sources_and_settings.main.body.getD i (.Pass ⟨0, 0, 0, 0⟩)
abbrev s_switch_places : Stmt := topS 5
abbrev sN_switch_places : List Str := ["many", "layer"]
theorem sc_switch_places : FnScope sN_switch_places ["many"] (defScope s_switch_places) := ⟨rfl, rfl, rfl, by decide +kernel, rfl, by decide +kernel, by decide +kernel⟩
abbrev s__switches : Stmt := topS 6
abbrev sN__switches : List Str := ["many", "layer", "places", "place"]
theorem sc__switches : FnScope sN__switches ["many"] (defScope s__switches) := ⟨rfl, rfl, rfl, by decide +kernel, rfl, by decide +kernel, by decide +kernel⟩
abbrev s__check_settings : Stmt := topS 7
abbrev sN__check_settings : List Str := ["many", "settings", "setting"]
theorem sc__check_settings : FnScope sN__check_settings ["many", "settings"] (defScope s__check_settings) := ⟨rfl, rfl, rfl, by decide +kernel, rfl, by decide +kernel, by decide +kernel⟩
abbrev s_source_places : Stmt := topS 8
abbrev sN_source_places : List Str := ["many", "settings", "current", "_", "place", "setting"]
theorem sc_source_places : FnScope sN_source_places ["many", "settings"] (defScope s_source_places) := ⟨rfl, rfl, rfl, by decide +kernel, rfl, by decide +kernel, by decide +kernel⟩
abbrev s_settings_for : Stmt := topS 9
abbrev sN_settings_for : List Str := ["places", "many", "goals", "goal", "place", "settings", "_"]
theorem sc_settings_for : FnScope sN_settings_for ["places"] (defScope s_settings_for) := ⟨rfl, rfl, rfl, by decide +kernel, rfl, by decide +kernel, by decide +kernel⟩
abbrev s__law_pool : Stmt := topS 12
abbrev sN__law_pool : List Str := ["script", "seed", "cell", "cells"]
theorem sc__law_pool : FnScope sN__law_pool ["script"] (defScope s__law_pool) := ⟨rfl, rfl, rfl, by decide +kernel, rfl, by decide +kernel, by decide +kernel⟩
abbrev s__law_mixed : Stmt := topS 11
abbrev sN__law_mixed : List Str := ["number", "turn", "many", "prime", "once", "twice"]
theorem sc__law_mixed : FnScope sN__law_mixed ["number", "turn", "many"] (defScope s__law_mixed) := ⟨rfl, rfl, rfl, by decide +kernel, rfl, by decide +kernel, by decide +kernel⟩
abbrev s__law_take : Stmt := topS 13
abbrev sN__law_take : List Str := ["pool", "many", "drawn"]
theorem sc__law_take : FnScope sN__law_take ["pool", "many"] (defScope s__law_take) := ⟨rfl, rfl, rfl, by decide +kernel, rfl, by decide +kernel, by decide +kernel⟩
abbrev s__law_same : Stmt := topS 14
abbrev sN__law_same : List Str := ["actual", "due", "k"]
theorem sc__law_same : FnScope sN__law_same ["actual", "due"] (defScope s__law_same) := ⟨rfl, rfl, rfl, by decide +kernel, rfl, by decide +kernel, by decide +kernel⟩
abbrev s__law_switches : Stmt := topS 15
abbrev sN__law_switches : List Str := ["many", "found", "layer", "j"]
theorem sc__law_switches : FnScope sN__law_switches ["many"] (defScope s__law_switches) := ⟨rfl, rfl, rfl, by decide +kernel, rfl, by decide +kernel, by decide +kernel⟩
abbrev s__law_sources : Stmt := topS 16
abbrev sN__law_sources : List Str := ["many", "settings", "now", "switches", "k", "j"]
theorem sc__law_sources : FnScope sN__law_sources ["many", "settings"] (defScope s__law_sources) := ⟨rfl, rfl, rfl, by decide +kernel, rfl, by decide +kernel, by decide +kernel⟩
abbrev s__law_goals : Stmt := topS 17
abbrev sN__law_goals : List Str := ["sources", "many", "goals", "settings", "layer", "j", "crossed", "place"]
theorem sc__law_goals : FnScope sN__law_goals ["sources"] (defScope s__law_goals) := ⟨rfl, rfl, rfl, by decide +kernel, rfl, by decide +kernel, by decide +kernel⟩
abbrev s__law_refused : Stmt := topS 18
abbrev sN__law_refused : List Str := ["many", "value", "which", "e"]
theorem sc__law_refused : FnScope sN__law_refused ["many", "value", "which"] (defScope s__law_refused) := ⟨rfl, rfl, rfl, by decide +kernel, rfl, by decide +kernel, by decide +kernel⟩
abbrev s__law_wrong_settings : Stmt := topS 19
abbrev sN__law_wrong_settings : List Str := ["pool", "many", "settings", "found", "at"]
theorem sc__law_wrong_settings : FnScope sN__law_wrong_settings ["pool", "many", "settings"] (defScope s__law_wrong_settings) := ⟨rfl, rfl, rfl, by decide +kernel, rfl, by decide +kernel, by decide +kernel⟩
abbrev s__law_wrong_orders : Stmt := topS 20
abbrev sN__law_wrong_orders : List Str := ["pool", "order", "many", "found", "at", "k", "place"]
theorem sc__law_wrong_orders : FnScope sN__law_wrong_orders ["pool", "order"] (defScope s__law_wrong_orders) := ⟨rfl, rfl, rfl, by decide +kernel, rfl, by decide +kernel, by decide +kernel⟩
abbrev s_law : Stmt := topS 21
abbrev sN_law : List Str := ["script", "pool", "many", "layers", "settings", "told", "wrong", "size", "rest", "order", "layer", "switch", "pair", "k"]
theorem sc_law : FnScope sN_law ["script"] (defScope s_law) := ⟨rfl, rfl, rfl, by decide +kernel, rfl, by decide +kernel, by decide +kernel⟩
/-- the class c lies at or under x -/
def sub_b (x c : String) : Bool := match c with
  | "HushError" => ["HushError"].contains x
  | "BadStatement" => ["BadStatement", "HushError"].contains x
  | "BadTape" => ["BadTape", "HushError"].contains x
  | _ => false
def sub_c (x c : String) : Option Bool := some (sub_b x c)
/-- what the top has made -/
structure Facts (K : PySem.W.Frag) (mg : Str → Option Value) where
  a_switch_places : Addr
  fd_switch_places : FuncData
  F_switch_places : Fun K "switch_places" "switch_places" s_switch_places a_switch_places fd_switch_places
  g_switch_places : mg "switch_places" = some (.ref a_switch_places)
  a__switches : Addr
  fd__switches : FuncData
  F__switches : Fun K "_switches" "_switches" s__switches a__switches fd__switches
  g__switches : mg "_switches" = some (.ref a__switches)
  a__check_settings : Addr
  fd__check_settings : FuncData
  F__check_settings : Fun K "_check_settings" "_check_settings" s__check_settings a__check_settings fd__check_settings
  g__check_settings : mg "_check_settings" = some (.ref a__check_settings)
  a_source_places : Addr
  fd_source_places : FuncData
  F_source_places : Fun K "source_places" "source_places" s_source_places a_source_places fd_source_places
  g_source_places : mg "source_places" = some (.ref a_source_places)
  a_settings_for : Addr
  fd_settings_for : FuncData
  F_settings_for : Fun K "settings_for" "settings_for" s_settings_for a_settings_for fd_settings_for
  g_settings_for : mg "settings_for" = some (.ref a_settings_for)
  a__law_pool : Addr
  fd__law_pool : FuncData
  F__law_pool : Fun K "_law_pool" "_law_pool" s__law_pool a__law_pool fd__law_pool
  g__law_pool : mg "_law_pool" = some (.ref a__law_pool)
  a__law_mixed : Addr
  fd__law_mixed : FuncData
  F__law_mixed : Fun K "_law_mixed" "_law_mixed" s__law_mixed a__law_mixed fd__law_mixed
  g__law_mixed : mg "_law_mixed" = some (.ref a__law_mixed)
  a__law_take : Addr
  fd__law_take : FuncData
  F__law_take : Fun K "_law_take" "_law_take" s__law_take a__law_take fd__law_take
  g__law_take : mg "_law_take" = some (.ref a__law_take)
  a__law_same : Addr
  fd__law_same : FuncData
  F__law_same : Fun K "_law_same" "_law_same" s__law_same a__law_same fd__law_same
  g__law_same : mg "_law_same" = some (.ref a__law_same)
  a__law_switches : Addr
  fd__law_switches : FuncData
  F__law_switches : Fun K "_law_switches" "_law_switches" s__law_switches a__law_switches fd__law_switches
  g__law_switches : mg "_law_switches" = some (.ref a__law_switches)
  a__law_sources : Addr
  fd__law_sources : FuncData
  F__law_sources : Fun K "_law_sources" "_law_sources" s__law_sources a__law_sources fd__law_sources
  g__law_sources : mg "_law_sources" = some (.ref a__law_sources)
  a__law_goals : Addr
  fd__law_goals : FuncData
  F__law_goals : Fun K "_law_goals" "_law_goals" s__law_goals a__law_goals fd__law_goals
  g__law_goals : mg "_law_goals" = some (.ref a__law_goals)
  a__law_refused : Addr
  fd__law_refused : FuncData
  F__law_refused : Fun K "_law_refused" "_law_refused" s__law_refused a__law_refused fd__law_refused
  g__law_refused : mg "_law_refused" = some (.ref a__law_refused)
  a__law_wrong_settings : Addr
  fd__law_wrong_settings : FuncData
  F__law_wrong_settings : Fun K "_law_wrong_settings" "_law_wrong_settings" s__law_wrong_settings a__law_wrong_settings fd__law_wrong_settings
  g__law_wrong_settings : mg "_law_wrong_settings" = some (.ref a__law_wrong_settings)
  a__law_wrong_orders : Addr
  fd__law_wrong_orders : FuncData
  F__law_wrong_orders : Fun K "_law_wrong_orders" "_law_wrong_orders" s__law_wrong_orders a__law_wrong_orders fd__law_wrong_orders
  g__law_wrong_orders : mg "_law_wrong_orders" = some (.ref a__law_wrong_orders)
  a_law : Addr
  fd_law : FuncData
  F_law : Fun K "law" "law" s_law a_law fd_law
  g_law : mg "law" = some (.ref a_law)
  C_HushError : Addr
  gc_HushError : mg "HushError" = some (.ref C_HushError)
  k_HushError : PySem.W.keepIn K (.ref C_HushError) = true
  q_HushError : PySem.W.excIn K C_HushError [.type "ValueError", .type "Exception", .type "BaseException", .type "object"] "ValueError.__new__" = true
  b_HushError : PySem.W.subIn K (.ref C_HushError) (.type "BaseException") = some true
  t_HushError : PySem.W.typeIn K (.ref C_HushError) = some (.type "type")
  e_HushError : ExcC K C_HushError
  C_BadStatement : Addr
  gc_BadStatement : mg "BadStatement" = some (.ref C_BadStatement)
  k_BadStatement : PySem.W.keepIn K (.ref C_BadStatement) = true
  q_BadStatement : PySem.W.excIn K C_BadStatement [.type "ValueError", .type "Exception", .type "BaseException", .type "object"] "ValueError.__new__" = true
  b_BadStatement : PySem.W.subIn K (.ref C_BadStatement) (.type "BaseException") = some true
  t_BadStatement : PySem.W.typeIn K (.ref C_BadStatement) = some (.type "type")
  e_BadStatement : ExcC K C_BadStatement
  C_BadTape : Addr
  gc_BadTape : mg "BadTape" = some (.ref C_BadTape)
  k_BadTape : PySem.W.keepIn K (.ref C_BadTape) = true
  q_BadTape : PySem.W.excIn K C_BadTape [.type "ValueError", .type "Exception", .type "BaseException", .type "object"] "ValueError.__new__" = true
  b_BadTape : PySem.W.subIn K (.ref C_BadTape) (.type "BaseException") = some true
  t_BadTape : PySem.W.typeIn K (.ref C_BadTape) = some (.type "type")
  e_BadTape : ExcC K C_BadTape
  i_HushError_BadTape : PySem.W.kitOne K (.ref C_HushError) (.ref C_BadTape) = some false
  i_BadStatement_BadTape : PySem.W.kitOne K (.ref C_BadStatement) (.ref C_BadTape) = some false
  i_BadTape_BadTape : PySem.W.kitOne K (.ref C_BadTape) (.ref C_BadTape) = some true
  i_HushError_BadStatement : PySem.W.kitOne K (.ref C_HushError) (.ref C_BadStatement) = some false
  i_BadStatement_BadStatement : PySem.W.kitOne K (.ref C_BadStatement) (.ref C_BadStatement) = some true
  i_BadTape_BadStatement : PySem.W.kitOne K (.ref C_BadTape) (.ref C_BadStatement) = some false
  x_HushError_HushError : PySem.W.exmOne K (.ref C_HushError) (.ref C_HushError) = some true
  x_BadStatement_HushError : PySem.W.exmOne K (.ref C_BadStatement) (.ref C_HushError) = some true
  x_BadTape_HushError : PySem.W.exmOne K (.ref C_BadTape) (.ref C_HushError) = some true
  z_bool : mg "bool" = none
  z_enumerate : mg "enumerate" = none
  z_int : mg "int" = none
  z_isinstance : mg "isinstance" = none
  z_len : mg "len" = none
  z_list : mg "list" = none
  z_range : mg "range" = none
  z_sorted : mg "sorted" = none
  z_str : mg "str" = none
  z_tuple : mg "tuple" = none
  z_zip : mg "zip" = none
section
variable {P : Program} {w : World} {K : PySem.W.Frag} {mg : Str → Option Value} {base : Heap} (Fx : Facts K mg)
def Facts.cl : Cl := ⟨fun c => match c with
  | "HushError" => some Fx.C_HushError
  | "BadStatement" => some Fx.C_BadStatement
  | "BadTape" => some Fx.C_BadTape
  | _ => none, none⟩
theorem Facts.cl_HushError : Fx.cl.f "HushError" = some Fx.C_HushError := rfl
theorem Facts.cl_BadStatement : Fx.cl.f "BadStatement" = some Fx.C_BadStatement := rfl
theorem Facts.cl_BadTape : Fx.cl.f "BadTape" = some Fx.C_BadTape := rfl
theorem Facts.cls {c : String} {C : Addr} (h : Fx.cl.f c = some C) : (c = "HushError" ∧ C = Fx.C_HushError) ∨ (c = "BadStatement" ∧ C = Fx.C_BadStatement) ∨ (c = "BadTape" ∧ C = Fx.C_BadTape) := by
  unfold Facts.cl at h
  simp only at h
  split at h
  · exact .inl ⟨rfl, (Option.some.inj h).symm⟩
  · exact .inr (.inl ⟨rfl, (Option.some.inj h).symm⟩)
  · exact .inr (.inr (⟨rfl, (Option.some.inj h).symm⟩))
  · cases h
theorem Facts.exc (c : String) (C : Addr) (h : Fx.cl.f c = some C) : ExcC K C := by
  rcases Fx.cls h with ⟨rfl, rfl⟩ | ⟨rfl, rfl⟩ | ⟨rfl, rfl⟩
  · exact Fx.e_HushError
  · exact Fx.e_BadStatement
  · exact Fx.e_BadTape
theorem Facts.sub_HushError (c : String) (C : Addr) (b : Bool) (h : Fx.cl.f c = some C) (hb : sub_c "HushError" c = some b) : PySem.W.exmOne K (.ref C) (.ref Fx.C_HushError) = some b := by
  rcases Fx.cls h with ⟨rfl, rfl⟩ | ⟨rfl, rfl⟩ | ⟨rfl, rfl⟩
  · cases hb; exact Fx.x_HushError_HushError
  · cases hb; exact Fx.x_BadStatement_HushError
  · cases hb; exact Fx.x_BadTape_HushError
theorem Facts.nm_HushError {X : Cx} (hg : Gl X "HushError") (hm : X.mg = mg := by rfl) : Names X "HushError" (.ref Fx.C_HushError) := ⟨hg, by decide, .inl (by rw [hm]; exact Fx.gc_HushError)⟩
theorem Facts.kit_BadStatement (c : String) (C : Addr) (h : Fx.cl.f c = some C) : PySem.W.kitOne K (.ref C) (.ref Fx.C_BadStatement) = some (sub_b "BadStatement" c) := by
  rcases Fx.cls h with ⟨rfl, rfl⟩ | ⟨rfl, rfl⟩ | ⟨rfl, rfl⟩
  · exact Fx.i_HushError_BadStatement
  · exact Fx.i_BadStatement_BadStatement
  · exact Fx.i_BadTape_BadStatement
theorem Facts.kit_BadTape (c : String) (C : Addr) (h : Fx.cl.f c = some C) : PySem.W.kitOne K (.ref C) (.ref Fx.C_BadTape) = some (sub_b "BadTape" c) := by
  rcases Fx.cls h with ⟨rfl, rfl⟩ | ⟨rfl, rfl⟩ | ⟨rfl, rfl⟩
  · exact Fx.i_HushError_BadTape
  · exact Fx.i_BadStatement_BadTape
  · exact Fx.i_BadTape_BadTape
theorem kb_switch_places_1_ : KB K Fx.fd_switch_places ["many"] [] 1 0 [0] := KB.of Fx.F_switch_places (fun _ _ _ _ _ _ us ws h0 h1 => match us, ws, h0, h1 with | [_], [], _, _ => rfl) (by decide)
theorem kb_switch_places_0_many : KB K Fx.fd_switch_places ["many"] ["many"] 0 1 [0] := KB.of Fx.F_switch_places (fun _ _ _ _ _ _ us ws h0 h1 => match us, ws, h0, h1 with | [], [_], _, _ => rfl) (by decide)
def b_switch_places : En → Out :=
  (sRet (dCall (on1 fTuple) (vCons (vT (dLc (iOps (vCons (vS 0) vNil) gR1) [1] (tName 1) dYes (dTRg3 (vCons (vT (dBin fMod (vS 1) (vT (dC (.int 2))))) (vCons (vT (dBin fSub (vS 0) (vT (dC (.int 1))))) (vCons (vT (dC (.int 2))) vNil)))))) vNil)))
def d_switch_places : Den := denFn [true] 2 b_switch_places
theorem ok_switch_places : FnOk P w K mg base (L2.CX P w) 1 Fx.a_switch_places Fx.fd_switch_places ["many"] (spD ⟨K, Fx.cl.f, none⟩ 1 d_switch_places) := by
  refine fn_ok (cl := Fx.cl) (k := 0) rfl Fx.F_switch_places sc_switch_places rfl (by decide) fun cdv A outer s H E hr => ?_
  exact (show HSs _ _ _ _ b_switch_places from (hss_one (hs_ret (he_callTy (f := (on1 fTuple)) call_tupleN cTuple (by rfl) Fx.z_tuple rfl (hvs_cons (hv_of (he_lc (own := [("layer", 1)]) (di := (iOps (vCons (vS 0) vNil) gR1)) (t := (tName 1)) (dc := dYes) (de := (dTRg3 (vCons (vT (dBin fMod (vS 1) (vT (dC (.int 2))))) (vCons (vT (dBin fSub (vS 0) (vT (dC (.int 1))))) (vCons (vT (dC (.int 2))) vNil))))) (pe_lc rfl sc_switch_places.nd (hi_range1 (by rfl) Fx.z_range (hvs_cons (hv_name (pv 0)) hvs_nil)) (blkOk_by (own := [("layer", 1)]) (N := sN_switch_places) (sc := defScope s_switch_places) (by decide +kernel)) (fun _ _ _ _ _ => (hg_name (pg_name (i := 1) sc_switch_places.nd rfl (by first | exact .inl rfl | exact .inr rfl)))) (fun _ _ _ _ _ => hts_nil) (fun _ _ _ _ _ => (he_tupRg3 rfl (by rfl) Fx.z_tuple (by rfl) Fx.z_range (hvs_cons (hv_of (he_mod (hv_name (pv 1)) (hv_of he_int))) (hvs_cons (hv_of (he_sub (hv_name (pv 0)) (hv_of he_int))) (hvs_cons (hv_of he_int) hvs_nil)))))))) hvs_nil)))))
theorem kb__switches_1_ : KB K Fx.fd__switches ["many"] [] 1 0 [0] := KB.of Fx.F__switches (fun _ _ _ _ _ _ us ws h0 h1 => match us, ws, h0, h1 with | [_], [], _, _ => rfl) (by decide)
def b__switches : En → Out :=
  (sRet (dLc2 (iAr (aCons (dCallF d_switch_places [0] (cCons (gName 0) cNil)) aNil) gEnum) [1, 2, 3] (tTupl (tgCons (tName 1) (tgCons (tName 2) tgNil))) dYes (iAny (dVar 2)) [3] (tName 3) dYes (dTup (aCons (dVar 1) (aCons (dVar 3) aNil)))))
def d__switches : Den := denFn [true] 4 b__switches
theorem ok__switches : FnOk P w K mg base (L2.CX P w) 2 Fx.a__switches Fx.fd__switches ["many"] (spD ⟨K, Fx.cl.f, none⟩ 1 d__switches) := by
  refine fn_ok (cl := Fx.cl) (k := 1) rfl Fx.F__switches sc__switches rfl (by decide) fun cdv A outer s H E hr => ?_
  exact (show HSs _ _ _ _ b__switches from (hss_one (hs_ret (he_lc2 (own := [("layer", 1), ("places", 2), ("place", 3)]) (vs1 := [3]) (di := (iAr (aCons (dCallF d_switch_places [0] (cCons (gName 0) cNil)) aNil) gEnum)) (t := (tTupl (tgCons (tName 1) (tgCons (tName 2) tgNil)))) (dc := dYes) (di1 := (iAny (dVar 2))) (t1 := (tName 3)) (dc1 := dYes) (de := (dTup (aCons (dVar 1) (aCons (dVar 3) aNil)))) (by decide) (pe_lc2 rfl sc__switches.nd (hi_enum (by rfl) Fx.z_enumerate (ha_cons (he_fn (ok_switch_places Fx) (hr.mono (by first | decide | omega)) (takes_of rfl rfl rfl rfl) (by rfl) Fx.g_switch_places Fx.F_switch_places.kp (kb_switch_places_1_ Fx) (hc_cons (ga_name (pv 0)) hc_nil)) ha_nil)) (blkOk_by (own := [("layer", 1), ("places", 2), ("place", 3)]) (N := sN__switches) (sc := defScope s__switches) (by decide +kernel)) (by decide) (fun _ _ _ _ _ => (hg_tup rfl (hgs_cons (hg_name (pg_name (i := 1) sc__switches.nd rfl (by first | exact .inl rfl | exact .inr rfl))) (hgs_cons (hg_name (pg_name (i := 2) sc__switches.nd rfl (by first | exact .inl rfl | exact .inr rfl))) hgs_nil)) (hlen := (tg_len (tg_len tg_len0))))) (fun _ _ _ _ _ => hts_nil) (fun _ _ _ _ _ => (hi_any (he_var (pv 2)))) (fun _ _ _ _ _ => (hg_name (pg_name (i := 3) sc__switches.nd rfl (by first | exact .inl rfl | exact .inr rfl)))) (fun _ _ _ _ _ => hts_nil) (fun _ _ _ _ _ => (he_tup (ha_cons (he_var (pv 1)) (ha_cons (he_var (pv 3)) ha_nil)))))))))
theorem kb__check_settings_2_ : KB K Fx.fd__check_settings ["many", "settings"] [] 2 0 [0, 1] := KB.of Fx.F__check_settings (fun _ _ _ _ _ _ us ws h0 h1 => match us, ws, h0, h1 with | [_, _], [], _, _ => rfl) (by decide)
def b__check_settings : En → Out :=
  (sSeq (sIf (dTst (dBin fNe (vT (dCall fLenU (vCons (vS 1) vNil))) (vT (dBin fDiv (vT (dBin fMul (vS 0) (vT (dBin fSub (vS 0) (vT (dC (.int 1))))))) (vT (dC (.int 2))))))) (sRaise "BadTape") sNext)
  (sFor (iAny (dVar 1)) (tName 2) (sIf (dAndT (dTst (dBin fNe (vS 2) (vT (dC (.int 0))))) (dTst (dBin fNe (vS 2) (vT (dC (.int 1)))))) (sRaise "BadTape") sNext)))
def d__check_settings : Den := denFn [true, true] 3 b__check_settings
theorem ok__check_settings : FnOk P w K mg base (L2.CX P w) 1 Fx.a__check_settings Fx.fd__check_settings ["many", "settings"] (spD ⟨K, Fx.cl.f, none⟩ 2 d__check_settings) := by
  refine fn_ok (cl := Fx.cl) (k := 0) rfl Fx.F__check_settings sc__check_settings rfl (by decide) fun cdv A outer s H E hr => ?_
  exact (show HSs _ _ _ _ b__check_settings from (hss_cons (hs_if (ht_cmp (f := fNe) (OpR.or op_ne (op_neD hr.units)) bNe (hv_of (he_callB (f := fLenU) (CallR.or call_len_seq (CallR.or call_len_str call_lenD)) cLenU (by rfl) Fx.z_len rfl (hvs_cons (hv_name (pv 1)) hvs_nil))) (hv_of (he_fdiv (hv_of (he_mul (hv_name (pv 0)) (hv_of (he_sub (hv_name (pv 0)) (hv_of he_int))))) (hv_of he_int))) (nomark _)) (hss_one (hs_raise (c := "BadTape") rfl (takes_of rfl rfl rfl rfl) (pmk_own0 PySem.F.excBase_ValueError Fx.q_BadTape Fx.gc_BadTape Fx.k_BadTape (raises_own Fx.b_BadTape Fx.t_BadTape) (by rfl)) Fx.cl_BadTape)) hss_nil)
      (hss_one (hs_for (ss := [2]) (passes_of rfl) rfl (hi_any (he_var (pv 1))) (hg_name (pg_name (i := 2) sc__check_settings.nd rfl (by first | exact .inl rfl | exact .inr rfl))) (hss_one (hs_if (ht_w (hw_and (ht_cmp (f := fNe) (OpR.or op_ne (op_neD hr.units)) bNe (hv_name (pv 2)) (hv_of he_int) (nomark _)) (hw_and1 (ht_cmp (f := fNe) (OpR.or op_ne (op_neD hr.units)) bNe (hv_name (pv 2)) (hv_of he_int) (nomark _))))) (hss_one (hs_raise (c := "BadTape") rfl (takes_of rfl rfl rfl rfl) (pmk_own0 PySem.F.excBase_ValueError Fx.q_BadTape Fx.gc_BadTape Fx.k_BadTape (raises_own Fx.b_BadTape Fx.t_BadTape) (by rfl)) Fx.cl_BadTape)) hss_nil))))))
theorem kb_source_places_2_ : KB K Fx.fd_source_places ["many", "settings"] [] 2 0 [0, 1] := KB.of Fx.F_source_places (fun _ _ _ _ _ _ us ws h0 h1 => match us, ws, h0, h1 with | [_, _], [], _, _ => rfl) (by decide)
theorem kb_source_places_0_many_settings : KB K Fx.fd_source_places ["many", "settings"] ["many", "settings"] 0 2 [0, 1] := KB.of Fx.F_source_places (fun _ _ _ _ _ _ us ws h0 h1 => match us, ws, h0, h1 with | [], [_, _], _, _ => rfl) (by decide)
def b_source_places : En → Out :=
  (sSeq (sExpr (dCallF d__check_settings [0, 1] (cCons (gName 0) (cCons (gName 1) cNil))))
  (sSeq (sAsg (dLRg (rg1 (vS 0))) (tName 2))
  (sSeq (sFor (iAr (aCons (dCallF d__switches [0] (cCons (gName 0) cNil)) (aCons (dVar 1) aNil)) gZip) (tTupl (tgCons (tTupl (tgCons (tName 3) (tgCons (tName 4) tgNil))) (tgCons (tName 5) tgNil))) (sIf (dTst (dBin fEq (vS 5) (vT (dC (.int 1))))) (sAsg (dTup (aCons (dBin fIx (vS 2) (vT (dBin fAdd (vS 4) (vT (dC (.int 1)))))) (aCons (dBin fIx (vS 2) (vS 4)) aNil))) (tTupl (tgCons (tSub 2 (vS 4)) (tgCons (tSub 2 (vT (dBin fAdd (vS 4) (vT (dC (.int 1)))))) tgNil)))) sNext))
  (sRet (dCall (on1 fTuple) (vCons (vS 2) vNil))))))
def d_source_places : Den := denFn [true, true] 6 b_source_places
theorem ok_source_places : FnOk P w K mg base (L2.CX P w) 3 Fx.a_source_places Fx.fd_source_places ["many", "settings"] (spD ⟨K, Fx.cl.f, none⟩ 2 d_source_places) := by
  refine fn_ok (cl := Fx.cl) (k := 2) rfl Fx.F_source_places sc_source_places rfl (by decide) fun cdv A outer s H E hr => ?_
  exact (show HSs _ _ _ _ b_source_places from (hss_cons (hs_expr (he_fn (ok__check_settings Fx) (hr.mono (by first | decide | omega)) (takes_of rfl rfl rfl rfl) (by rfl) Fx.g__check_settings Fx.F__check_settings.kp (kb__check_settings_2_ Fx) (hc_cons (ga_name (pv 0)) (hc_cons (ga_name (pv 1)) hc_nil))))
      (hss_cons (hs_asg (ss := [2]) (he_listRg rfl (by rfl) Fx.z_list (hrg_1 (by rfl) Fx.z_range (hv_name (pv 0)))) (hg_name (pg_name (i := 2) sc_source_places.nd rfl (by first | exact .inl rfl | exact .inr rfl))))
      (hss_cons (hs_for (ss := [3, 4, 5]) (passes_of rfl) rfl (hi_zip (by rfl) Fx.z_zip (ha_cons (he_fn (ok__switches Fx) (hr.mono (by first | decide | omega)) (takes_of rfl rfl rfl rfl) (by rfl) Fx.g__switches Fx.F__switches.kp (kb__switches_1_ Fx) (hc_cons (ga_name (pv 0)) hc_nil)) (ha_cons (he_var (pv 1)) ha_nil))) (hg_tup rfl (hgs_cons (hg_tup rfl (hgs_cons (hg_name (pg_name (i := 3) sc_source_places.nd rfl (by first | exact .inl rfl | exact .inr rfl))) (hgs_cons (hg_name (pg_name (i := 4) sc_source_places.nd rfl (by first | exact .inl rfl | exact .inr rfl))) hgs_nil)) (hlen := (tg_len (tg_len tg_len0)))) (hgs_cons (hg_name (pg_name (i := 5) sc_source_places.nd rfl (by first | exact .inl rfl | exact .inr rfl))) hgs_nil)) (hlen := (tg_len (tg_len tg_len0)))) (hss_one (hs_if (ht_cmp (f := fEq) (OpR.or op_eq (op_eqD hr.units)) bEq (hv_name (pv 5)) (hv_of he_int) (nomark _)) (hss_one (hs_asg (ss := []) (he_tup (ha_cons (he_sbs (hu_of hr) (hv_name (pv 2)) (hv_of (he_add (hv_name (pv 4)) (hv_of he_int))) (fun _ _ => rfl)) (ha_cons (he_sbs (hu_of hr) (hv_name (pv 2)) (hv_name (pv 4)) (fun _ _ => rfl)) ha_nil))) (hg_tup rfl (hgs_cons (hg_sub (Wo := Wf) (hu_of hr) (pv 2) (hv_name (pv 4))) (hgs_cons (hg_sub (Wo := Wf) (hu_of hr) (pv 2) (hv_of (he_add (hv_name (pv 4)) (hv_of he_int)))) hgs_nil)) (hlen := (tg_len (tg_len tg_len0)))))) hss_nil)))
      (hss_one (hs_ret (he_callTy (f := (on1 fTuple)) call_tupleN cTuple (by rfl) Fx.z_tuple rfl (hvs_cons (hv_name (pv 2)) hvs_nil))))))))
theorem kb_settings_for_0_places : KB K Fx.fd_settings_for ["places"] ["places"] 0 1 [0] := KB.of Fx.F_settings_for (fun _ _ _ _ _ _ us ws h0 h1 => match us, ws, h0, h1 with | [], [_], _, _ => rfl) (by decide)
theorem kb_settings_for_1_ : KB K Fx.fd_settings_for ["places"] [] 1 0 [0] := KB.of Fx.F_settings_for (fun _ _ _ _ _ _ us ws h0 h1 => match us, ws, h0, h1 with | [_], [], _, _ => rfl) (by decide)
def b_settings_for : En → Out :=
  (sSeq (sAsg (dCall fLenU (vCons (vS 0) vNil)) (tName 1))
  (sSeq (sIf (dTst (dBin fNe (vT (dCall (on1 fSorted) (vCons (vS 0) vNil))) (vT (dLRg (rg1 (vS 1)))))) (sRaise "BadStatement") sNext)
  (sSeq (sAsg (dBin fMul (vT (dLst (aCons (dC (.int 0)) aNil))) (vS 1)) (tName 2))
  (sSeq (sFor (iAr (aCons (dVar 0) aNil) gEnum) (tTupl (tgCons (tName 3) (tgCons (tName 4) tgNil))) (sAsg (dVar 3) (tSub 2 (vS 4))))
  (sSeq (sAsg (dLst aNil) (tName 5))
  (sSeq (sFor (iAny (dCallF d__switches [0] (cCons (gName 1) cNil))) (tTupl (tgCons (tName 6) (tgCons (tName 4) tgNil))) (sIf (dTst (dBin fGt (vT (dBin fIx (vS 2) (vS 4))) (vT (dBin fIx (vS 2) (vT (dBin fAdd (vS 4) (vT (dC (.int 1))))))))) (sSeq (sAsg (dTup (aCons (dBin fIx (vS 2) (vT (dBin fAdd (vS 4) (vT (dC (.int 1)))))) (aCons (dBin fIx (vS 2) (vS 4)) aNil))) (tTupl (tgCons (tSub 2 (vS 4)) (tgCons (tSub 2 (vT (dBin fAdd (vS 4) (vT (dC (.int 1)))))) tgNil))))
  (sExpr (dMut 5 fAppend (aCons (dC (.int 1)) aNil)))) (sExpr (dMut 5 fAppend (aCons (dC (.int 0)) aNil)))))
  (sRet (dCall (on1 fTuple) (vCons (vS 5) vNil)))))))))
def d_settings_for : Den := denFn [true] 7 b_settings_for
theorem ok_settings_for : FnOk P w K mg base (L2.CX P w) 3 Fx.a_settings_for Fx.fd_settings_for ["places"] (spD ⟨K, Fx.cl.f, none⟩ 1 d_settings_for) := by
  refine fn_ok (cl := Fx.cl) (k := 2) rfl Fx.F_settings_for sc_settings_for rfl (by decide) fun cdv A outer s H E hr => ?_
  exact (show HSs _ _ _ _ b_settings_for from (hss_cons (hs_asg (ss := [1]) (he_callB (f := fLenU) (CallR.or call_len_seq (CallR.or call_len_str call_lenD)) cLenU (by rfl) Fx.z_len rfl (hvs_cons (hv_name (pv 0)) hvs_nil)) (hg_name (pg_name (i := 1) sc_settings_for.nd rfl (by first | exact .inl rfl | exact .inr rfl))))
      (hss_cons (hs_if (ht_cmp (f := fNe) (OpR.or op_ne (op_neD hr.units)) bNe (hv_of (he_callB (f := (on1 fSorted)) cr_sortedK cSorted (by rfl) Fx.z_sorted rfl (hvs_cons (hv_name (pv 0)) hvs_nil))) (hv_of (he_listRg rfl (by rfl) Fx.z_list (hrg_1 (by rfl) Fx.z_range (hv_name (pv 1))))) (nomark _)) (hss_one (hs_raise (c := "BadStatement") rfl (takes_of rfl rfl rfl rfl) (pmk_own0 PySem.F.excBase_ValueError Fx.q_BadStatement Fx.gc_BadStatement Fx.k_BadStatement (raises_own Fx.b_BadStatement Fx.t_BadStatement) (by rfl)) Fx.cl_BadStatement)) hss_nil)
      (hss_cons (hs_asg (ss := [2]) (he_mul (hv_of (he_lst (ha_cons he_int ha_nil))) (hv_name (pv 1))) (hg_name (pg_name (i := 2) sc_settings_for.nd rfl (by first | exact .inl rfl | exact .inr rfl))))
      (hss_cons (hs_for (ss := [3, 4]) (passes_of rfl) rfl (hi_enum (by rfl) Fx.z_enumerate (ha_cons (he_var (pv 0)) ha_nil)) (hg_tup rfl (hgs_cons (hg_name (pg_name (i := 3) sc_settings_for.nd rfl (by first | exact .inl rfl | exact .inr rfl))) (hgs_cons (hg_name (pg_name (i := 4) sc_settings_for.nd rfl (by first | exact .inl rfl | exact .inr rfl))) hgs_nil)) (hlen := (tg_len (tg_len tg_len0)))) (hss_one (hs_asg (ss := []) (he_var (pv 3)) (hg_sub (Wo := Wf) (hu_of hr) (pv 2) (hv_name (pv 4))))))
      (hss_cons (hs_asg (ss := [5]) (he_lst ha_nil) (hg_name (pg_name (i := 5) sc_settings_for.nd rfl (by first | exact .inl rfl | exact .inr rfl))))
      (hss_cons (hs_for (ss := [6, 4]) (passes_of rfl) rfl (hi_any (he_fn (ok__switches Fx) (hr.mono (by first | decide | omega)) (takes_of rfl rfl rfl rfl) (by rfl) Fx.g__switches Fx.F__switches.kp (kb__switches_1_ Fx) (hc_cons (ga_name (pv 1)) hc_nil))) (hg_tup rfl (hgs_cons (hg_name (pg_name (i := 6) sc_settings_for.nd rfl (by first | exact .inl rfl | exact .inr rfl))) (hgs_cons (hg_name (pg_name (i := 4) sc_settings_for.nd rfl (by first | exact .inl rfl | exact .inr rfl))) hgs_nil)) (hlen := (tg_len (tg_len tg_len0)))) (hss_one (hs_if (ht_cmp (f := fGt) op_gt bGt (hv_of (he_sbs (hu_of hr) (hv_name (pv 2)) (hv_name (pv 4)) (fun _ _ => rfl))) (hv_of (he_sbs (hu_of hr) (hv_name (pv 2)) (hv_of (he_add (hv_name (pv 4)) (hv_of he_int))) (fun _ _ => rfl))) (nomark _)) (hss_cons (hs_asg (ss := []) (he_tup (ha_cons (he_sbs (hu_of hr) (hv_name (pv 2)) (hv_of (he_add (hv_name (pv 4)) (hv_of he_int))) (fun _ _ => rfl)) (ha_cons (he_sbs (hu_of hr) (hv_name (pv 2)) (hv_name (pv 4)) (fun _ _ => rfl)) ha_nil))) (hg_tup rfl (hgs_cons (hg_sub (Wo := Wf) (hu_of hr) (pv 2) (hv_name (pv 4))) (hgs_cons (hg_sub (Wo := Wf) (hu_of hr) (pv 2) (hv_of (he_add (hv_name (pv 4)) (hv_of he_int)))) hgs_nil)) (hlen := (tg_len (tg_len tg_len0)))))
      (hss_one (hs_expr (he_mut (id := "list.append") mAppend (pe_bm PySem.F.plainAttrs_list PySem.F.slot_list_append PySem.F.type_list_append mt_append (pv 5) (ha_cons he_int ha_nil)))))) (hss_one (hs_expr (he_mut (id := "list.append") mAppend (pe_bm PySem.F.plainAttrs_list PySem.F.slot_list_append PySem.F.type_list_append mt_append (pv 5) (ha_cons he_int ha_nil))))))))
      (hss_one (hs_ret (he_callTy (f := (on1 fTuple)) call_tupleN cTuple (by rfl) Fx.z_tuple rfl (hvs_cons (hv_name (pv 5)) hvs_nil)))))))))))
theorem kb__law_pool_1_ : KB K Fx.fd__law_pool ["script"] [] 1 0 [0] := KB.of Fx.F__law_pool (fun _ _ _ _ _ _ us ws h0 h1 => match us, ws, h0, h1 with | [_], [], _, _ => rfl) (by decide)
def b__law_pool : En → Out :=
  (sSeq (sAsg (dC (.int 7)) (tName 1))
  (sSeq (sFor (iAny (dVar 0)) (tName 2) (sAsg (dBin fMod (vT (dCall (on1 fInt) (vCons (vT (dBin fAdd (vT (dBin fMul (vS 1) (vT (dC (.int 1000003))))) (vS 2))) vNil))) (vT (dC (.int 2305843009213693951)))) (tName 1)))
  (sSeq (sAsg (dCall (on1 fList) (vCons (vS 0) vNil)) (tName 3))
  (sSeq (sIf (dAndT (dTst (dBin fGt (vT (dCall fLenU (vCons (vS 3) vNil))) (vT (dC (.int 0))))) (dTst (dBin fEq (vT (dBin fMod (vT (dCall (on1 fInt) (vCons (vT (dBin fIx (vS 3) (vT (dC (.int 0))))) vNil))) (vT (dC (.int 2))))) (vT (dC (.int 1)))))) (sAsg (dLst aNil) (tName 3)) sNext)
  (sSeq (sIf (dTst (dBin fGt (vT (dCall fLenU (vCons (vS 3) vNil))) (vT (dC (.int 0))))) (sAsg (dBin fDiv (vT (dBin fIx (vS 3) (vT (dC (.int 0))))) (vT (dC (.int 2)))) (tSub 3 (vT (dC (.int 0))))) sNext)
  (sRet (dDisp [Sum.inr (Str.ofString "cells"), Sum.inr (Str.ofString "at"), Sum.inr (Str.ofString "rest"), Sum.inr (Str.ofString "left"), Sum.inr (Str.ofString "small"), Sum.inr (Str.ofString "seed"), Sum.inr (Str.ofString "turn")] [(dFz (dVar 3)), (dC (.int 0)), (dC (.int 0)), (dC (.int 0)), (dC (.bl true)), (dFz (dVar 1)), (dC (.int 0))])))))))
def d__law_pool : Den := denFn [true] 4 b__law_pool
theorem ok__law_pool : FnOk P w K mg base (L2.CX P w) 1 Fx.a__law_pool Fx.fd__law_pool ["script"] (spD ⟨K, Fx.cl.f, none⟩ 1 d__law_pool) := by
  refine fn_ok (cl := Fx.cl) (k := 0) rfl Fx.F__law_pool sc__law_pool rfl (by decide) fun cdv A outer s H E hr => ?_
  exact (show HSs _ _ _ _ b__law_pool from (hss_cons (hs_asg (ss := [1]) he_int (hg_name (pg_name (i := 1) sc__law_pool.nd rfl (by first | exact .inl rfl | exact .inr rfl))))
      (hss_cons (hs_for (ss := [2]) (passes_of rfl) rfl (hi_any (he_var (pv 0))) (hg_name (pg_name (i := 2) sc__law_pool.nd rfl (by first | exact .inl rfl | exact .inr rfl))) (hss_one (hs_asg (ss := [1]) (he_mod (hv_of (he_callTy (f := (on1 fInt)) call_int1 cInt (by rfl) Fx.z_int rfl (hvs_cons (hv_of (he_add (hv_of (he_mul (hv_name (pv 1)) (hv_of he_int))) (hv_name (pv 2)))) hvs_nil))) (hv_of he_int)) (hg_name (pg_name (i := 1) sc__law_pool.nd rfl (by first | exact .inl rfl | exact .inr rfl))))))
      (hss_cons (hs_asg (ss := [3]) (he_callTy (f := (on1 fList)) call_list_of cList (by rfl) Fx.z_list rfl (hvs_cons (hv_name (pv 0)) hvs_nil)) (hg_name (pg_name (i := 3) sc__law_pool.nd rfl (by first | exact .inl rfl | exact .inr rfl))))
      (hss_cons (hs_if (ht_w (hw_and (ht_cmp (f := fGt) op_gt bGt (hv_of (he_callB (f := fLenU) (CallR.or call_len_seq (CallR.or call_len_str call_lenD)) cLenU (by rfl) Fx.z_len rfl (hvs_cons (hv_name (pv 3)) hvs_nil))) (hv_of he_int) (nomark _)) (hw_and1 (ht_cmp (f := fEq) (OpR.or op_eq (op_eqD hr.units)) bEq (hv_of (he_mod (hv_of (he_callTy (f := (on1 fInt)) call_int1 cInt (by rfl) Fx.z_int rfl (hvs_cons (hv_of (he_sbs (hu_of hr) (hv_name (pv 3)) (hv_of he_int) (fun _ _ => rfl))) hvs_nil))) (hv_of he_int))) (hv_of he_int) (nomark _))))) (hss_one (hs_asg (ss := [3]) (he_lst ha_nil) (hg_name (pg_name (i := 3) sc__law_pool.nd rfl (by first | exact .inl rfl | exact .inr rfl))))) hss_nil)
      (hss_cons (hs_if (ht_cmp (f := fGt) op_gt bGt (hv_of (he_callB (f := fLenU) (CallR.or call_len_seq (CallR.or call_len_str call_lenD)) cLenU (by rfl) Fx.z_len rfl (hvs_cons (hv_name (pv 3)) hvs_nil))) (hv_of he_int) (nomark _)) (hss_one (hs_asg (ss := []) (he_fdiv (hv_of (he_sbs (hu_of hr) (hv_name (pv 3)) (hv_of he_int) (fun _ _ => rfl))) (hv_of he_int)) (hg_sub (Wo := Wf) (hu_of hr) (pv 3) (hv_of he_int)))) hss_nil)
      (hss_one (hs_ret (he_disp (ks := [Sum.inr (Str.ofString "cells"), Sum.inr (Str.ofString "at"), Sum.inr (Str.ofString "rest"), Sum.inr (Str.ofString "left"), Sum.inr (Str.ofString "small"), Sum.inr (Str.ofString "seed"), Sum.inr (Str.ofString "turn")]) (ds := [(dFz (dVar 3)), (dC (.int 0)), (dC (.int 0)), (dC (.int 0)), (dC (.bl true)), (dFz (dVar 1)), (dC (.int 0))]) (pps_cons pe_str (he_fz (he_var (pv 3))) (pps_cons pe_str he_int (pps_cons pe_str he_int (pps_cons pe_str he_int (pps_cons pe_str he_bl (pps_cons pe_str (he_fz (he_var (pv 1))) (pps_cons pe_str he_int pps_nil))))))))))))))))
theorem kb__law_mixed_3_ : KB K Fx.fd__law_mixed ["number", "turn", "many"] [] 3 0 [0, 1, 2] := KB.of Fx.F__law_mixed (fun _ _ _ _ _ _ us ws h0 h1 => match us, ws, h0, h1 with | [_, _, _], [], _, _ => rfl) (by decide)
def b__law_mixed : En → Out :=
  (sSeq (sAsg (dC (.int 2305843009213693951)) (tName 3))
  (sSeq (sAsg (dBin fMod (vT (dCall (on1 fInt) (vCons (vT (dBin fAdd (vT (dBin fAdd (vT (dBin fMul (vS 0) (vT (dC (.int 48271))))) (vT (dBin fMul (vS 1) (vT (dC (.int 1000000000039))))))) (vT (dC (.int 12345678910111213))))) vNil))) (vS 3)) (tName 4))
  (sSeq (sAsg (dBin fMod (vT (dBin fMul (vT (dCall (on1 fInt) (vCons (vT (dBin fAdd (vT (dBin fMul (vS 4) (vS 4))) (vS 1))) vNil))) (vT (dC (.int 7046029254386353))))) (vS 3)) (tName 5))
  (sRet (dBin fMod (vT (dBin fDiv (vS 5) (vT (dC (.int 8))))) (vS 2))))))
def d__law_mixed : Den := denFn [true, true, true] 6 b__law_mixed
theorem ok__law_mixed : FnOk P w K mg base (L2.CX P w) 1 Fx.a__law_mixed Fx.fd__law_mixed ["number", "turn", "many"] (spD ⟨K, Fx.cl.f, none⟩ 3 d__law_mixed) := by
  refine fn_ok (cl := Fx.cl) (k := 0) rfl Fx.F__law_mixed sc__law_mixed rfl (by decide) fun cdv A outer s H E hr => ?_
  exact (show HSs _ _ _ _ b__law_mixed from (hss_cons (hs_asg (ss := [3]) he_int (hg_name (pg_name (i := 3) sc__law_mixed.nd rfl (by first | exact .inl rfl | exact .inr rfl))))
      (hss_cons (hs_asg (ss := [4]) (he_mod (hv_of (he_callTy (f := (on1 fInt)) call_int1 cInt (by rfl) Fx.z_int rfl (hvs_cons (hv_of (he_add (hv_of (he_add (hv_of (he_mul (hv_name (pv 0)) (hv_of he_int))) (hv_of (he_mul (hv_name (pv 1)) (hv_of he_int))))) (hv_of he_int))) hvs_nil))) (hv_name (pv 3))) (hg_name (pg_name (i := 4) sc__law_mixed.nd rfl (by first | exact .inl rfl | exact .inr rfl))))
      (hss_cons (hs_asg (ss := [5]) (he_mod (hv_of (he_mul (hv_of (he_callTy (f := (on1 fInt)) call_int1 cInt (by rfl) Fx.z_int rfl (hvs_cons (hv_of (he_add (hv_of (he_mul (hv_name (pv 4)) (hv_name (pv 4)))) (hv_name (pv 1)))) hvs_nil))) (hv_of he_int))) (hv_name (pv 3))) (hg_name (pg_name (i := 5) sc__law_mixed.nd rfl (by first | exact .inl rfl | exact .inr rfl))))
      (hss_one (hs_ret (he_mod (hv_of (he_fdiv (hv_name (pv 5)) (hv_of he_int))) (hv_name (pv 2)))))))))
theorem kb__law_take_2_ : KB K Fx.fd__law_take ["pool", "many"] [] 2 0 [0, 1] := KB.of Fx.F__law_take (fun _ _ _ _ _ _ us ws h0 h1 => match us, ws, h0, h1 with | [_, _], [], _, _ => rfl) (by decide)
def b__law_take : En → Out :=
  (sSeq (sAsg (dBin fAdd (vT (dBin fIx (vS 0) (vT (dC (.str (Str.ofString "turn")))))) (vT (dC (.int 1)))) (tSub 0 (vT (dC (.str (Str.ofString "turn"))))))
  (sSeq (sIf (dAndT (dTst (dBin fEq (vT (dBin fIx (vS 0) (vT (dC (.str (Str.ofString "left")))))) (vT (dC (.int 0))))) (dTst (dBin fLt (vT (dBin fIx (vS 0) (vT (dC (.str (Str.ofString "at")))))) (vT (dCall fLenU (vCons (vT (dBin fIx (vS 0) (vT (dC (.str (Str.ofString "cells")))))) vNil)))))) (sSeq (sAsg (dBin fIx (vT (dBin fIx (vS 0) (vT (dC (.str (Str.ofString "cells")))))) (vT (dBin fIx (vS 0) (vT (dC (.str (Str.ofString "at"))))))) (tSub 0 (vT (dC (.str (Str.ofString "rest"))))))
  (sSeq (sAsg (dBin fAdd (vT (dBin fIx (vS 0) (vT (dC (.str (Str.ofString "at")))))) (vT (dC (.int 1)))) (tSub 0 (vT (dC (.str (Str.ofString "at"))))))
  (sSeq (sAsg (dBin fLt (vT (dBin fIx (vS 0) (vT (dC (.str (Str.ofString "rest")))))) (vT (dBin fPow (vT (dC (.int 10))) (vT (dC (.int 18)))))) (tSub 0 (vT (dC (.str (Str.ofString "small"))))))
  (sAsg (dBin fIx (vT (dLst (aCons (dC (.int 60)) (aCons (dC (.int 2)) aNil)))) (vT (dCall (on1 fInt) (vCons (vT (dBin fIx (vS 0) (vT (dC (.str (Str.ofString "small")))))) vNil)))) (tSub 0 (vT (dC (.str (Str.ofString "left"))))))))) sNext)
  (sSeq (sIf (dTst (dBin fEq (vT (dBin fIx (vS 0) (vT (dC (.str (Str.ofString "left")))))) (vT (dC (.int 0))))) (sRet (dCallF d__law_mixed [0, 1, 2] (cCons (gVal (dBin fIx (vS 0) (vT (dC (.str (Str.ofString "seed")))))) (cCons (gVal (dBin fIx (vS 0) (vT (dC (.str (Str.ofString "turn")))))) (cCons (gName 1) cNil))))) sNext)
  (sSeq (sAsg (dBin fSub (vT (dBin fIx (vS 0) (vT (dC (.str (Str.ofString "left")))))) (vT (dC (.int 1)))) (tSub 0 (vT (dC (.str (Str.ofString "left"))))))
  (sSeq (sIf (dTst (dBin fIx (vS 0) (vT (dC (.str (Str.ofString "small")))))) (sRet (dCallF d__law_mixed [0, 1, 2] (cCons (gVal (dBin fIx (vS 0) (vT (dC (.str (Str.ofString "rest")))))) (cCons (gVal (dBin fIx (vS 0) (vT (dC (.str (Str.ofString "turn")))))) (cCons (gName 1) cNil))))) sNext)
  (sSeq (sAsg (dBin fMod (vT (dCall (on1 fInt) (vCons (vT (dBin fIx (vS 0) (vT (dC (.str (Str.ofString "rest")))))) vNil))) (vS 1)) (tName 2))
  (sSeq (sAsg (dBin fDiv (vT (dBin fIx (vS 0) (vT (dC (.str (Str.ofString "rest")))))) (vS 1)) (tSub 0 (vT (dC (.str (Str.ofString "rest"))))))
  (sSeq (sIf (dTst (dBin fEq (vT (dBin fIx (vS 0) (vT (dC (.str (Str.ofString "rest")))))) (vT (dC (.int 0))))) (sAsg (dC (.int 0)) (tSub 0 (vT (dC (.str (Str.ofString "left")))))) sNext)
  (sRet (dMove 2))))))))))
def d__law_take : Den := denFn [true, true] 3 b__law_take
theorem ok__law_take : FnOk P w K mg base (L2.CX P w) 2 Fx.a__law_take Fx.fd__law_take ["pool", "many"] (spD ⟨K, Fx.cl.f, none⟩ 2 d__law_take) := by
  refine fn_ok (cl := Fx.cl) (k := 1) rfl Fx.F__law_take sc__law_take rfl (by decide) fun cdv A outer s H E hr => ?_
  exact (show HSs _ _ _ _ b__law_take from (hss_cons (hs_asg (ss := []) (he_add (hv_of (he_sbs (hu_of hr) (hv_name (pv 0)) (hv_of he_str) (fun _ _ => rfl))) (hv_of he_int)) (hg_sub (Wo := Wf) (hu_of hr) (pv 0) (hv_of he_str)))
      (hss_cons (hs_if (ht_w (hw_and (ht_cmp (f := fEq) (OpR.or op_eq (op_eqD hr.units)) bEq (hv_of (he_sbs (hu_of hr) (hv_name (pv 0)) (hv_of he_str) (fun _ _ => rfl))) (hv_of he_int) (nomark _)) (hw_and1 (ht_cmp (f := fLt) op_lt bLt (hv_of (he_sbs (hu_of hr) (hv_name (pv 0)) (hv_of he_str) (fun _ _ => rfl))) (hv_of (he_callB (f := fLenU) (CallR.or call_len_seq (CallR.or call_len_str call_lenD)) cLenU (by rfl) Fx.z_len rfl (hvs_cons (hv_of (he_sbs (hu_of hr) (hv_name (pv 0)) (hv_of he_str) (fun _ _ => rfl))) hvs_nil))) (nomark _))))) (hss_cons (hs_asg (ss := []) (he_sbs (hu_of hr) (hv_of (he_sbs (hu_of hr) (hv_name (pv 0)) (hv_of he_str) (fun _ _ => rfl))) (hv_of (he_sbs (hu_of hr) (hv_name (pv 0)) (hv_of he_str) (fun _ _ => rfl))) (fun _ _ => rfl)) (hg_sub (Wo := Wf) (hu_of hr) (pv 0) (hv_of he_str)))
      (hss_cons (hs_asg (ss := []) (he_add (hv_of (he_sbs (hu_of hr) (hv_name (pv 0)) (hv_of he_str) (fun _ _ => rfl))) (hv_of he_int)) (hg_sub (Wo := Wf) (hu_of hr) (pv 0) (hv_of he_str)))
      (hss_cons (hs_asg (ss := []) (he_cmp (f := fLt) op_lt bLt (hv_of (he_sbs (hu_of hr) (hv_name (pv 0)) (hv_of he_str) (fun _ _ => rfl))) (hv_of (he_pow (hv_of he_int) (hv_of he_int))) (nomark _)) (hg_sub (Wo := Wf) (hu_of hr) (pv 0) (hv_of he_str)))
      (hss_one (hs_asg (ss := []) (he_sbs (hu_of hr) (hv_of (he_lst (ha_cons he_int (ha_cons he_int ha_nil)))) (hv_of (he_callTy (f := (on1 fInt)) call_int1 cInt (by rfl) Fx.z_int rfl (hvs_cons (hv_of (he_sbs (hu_of hr) (hv_name (pv 0)) (hv_of he_str) (fun _ _ => rfl))) hvs_nil))) (fun _ _ => rfl)) (hg_sub (Wo := Wf) (hu_of hr) (pv 0) (hv_of he_str))))))) hss_nil)
      (hss_cons (hs_if (ht_cmp (f := fEq) (OpR.or op_eq (op_eqD hr.units)) bEq (hv_of (he_sbs (hu_of hr) (hv_name (pv 0)) (hv_of he_str) (fun _ _ => rfl))) (hv_of he_int) (nomark _)) (hss_one (hs_ret (he_fn (ok__law_mixed Fx) (hr.mono (by first | decide | omega)) (takes_of rfl rfl rfl rfl) (by rfl) Fx.g__law_mixed Fx.F__law_mixed.kp (kb__law_mixed_3_ Fx) (hc_cons (ga_val (he_sbs (hu_of hr) (hv_name (pv 0)) (hv_of he_str) (fun _ _ => rfl))) (hc_cons (ga_val (he_sbs (hu_of hr) (hv_name (pv 0)) (hv_of he_str) (fun _ _ => rfl))) (hc_cons (ga_name (pv 1)) hc_nil)))))) hss_nil)
      (hss_cons (hs_asg (ss := []) (he_sub (hv_of (he_sbs (hu_of hr) (hv_name (pv 0)) (hv_of he_str) (fun _ _ => rfl))) (hv_of he_int)) (hg_sub (Wo := Wf) (hu_of hr) (pv 0) (hv_of he_str)))
      (hss_cons (hs_if (ht_val (he_sbs (hu_of hr) (hv_name (pv 0)) (hv_of he_str) (fun _ _ => rfl))) (hss_one (hs_ret (he_fn (ok__law_mixed Fx) (hr.mono (by first | decide | omega)) (takes_of rfl rfl rfl rfl) (by rfl) Fx.g__law_mixed Fx.F__law_mixed.kp (kb__law_mixed_3_ Fx) (hc_cons (ga_val (he_sbs (hu_of hr) (hv_name (pv 0)) (hv_of he_str) (fun _ _ => rfl))) (hc_cons (ga_val (he_sbs (hu_of hr) (hv_name (pv 0)) (hv_of he_str) (fun _ _ => rfl))) (hc_cons (ga_name (pv 1)) hc_nil)))))) hss_nil)
      (hss_cons (hs_asg (ss := [2]) (he_mod (hv_of (he_callTy (f := (on1 fInt)) call_int1 cInt (by rfl) Fx.z_int rfl (hvs_cons (hv_of (he_sbs (hu_of hr) (hv_name (pv 0)) (hv_of he_str) (fun _ _ => rfl))) hvs_nil))) (hv_name (pv 1))) (hg_name (pg_name (i := 2) sc__law_take.nd rfl (by first | exact .inl rfl | exact .inr rfl))))
      (hss_cons (hs_asg (ss := []) (he_fdiv (hv_of (he_sbs (hu_of hr) (hv_name (pv 0)) (hv_of he_str) (fun _ _ => rfl))) (hv_name (pv 1))) (hg_sub (Wo := Wf) (hu_of hr) (pv 0) (hv_of he_str)))
      (hss_cons (hs_if (ht_cmp (f := fEq) (OpR.or op_eq (op_eqD hr.units)) bEq (hv_of (he_sbs (hu_of hr) (hv_name (pv 0)) (hv_of he_str) (fun _ _ => rfl))) (hv_of he_int) (nomark _)) (hss_one (hs_asg (ss := []) he_int (hg_sub (Wo := Wf) (hu_of hr) (pv 0) (hv_of he_str)))) hss_nil)
      (hss_one (hs_ret (he_move (pv 2)))))))))))))
theorem kb__law_same_2_ : KB K Fx.fd__law_same ["actual", "due"] [] 2 0 [0, 1] := KB.of Fx.F__law_same (fun _ _ _ _ _ _ us ws h0 h1 => match us, ws, h0, h1 with | [_, _], [], _, _ => rfl) (by decide)
def b__law_same (dR : Den) : En → Out :=
  (sSeq (sIf (dTst (dCall (on2 fIsi) (vCons (vS 1) (vCons (vT (dC (.ty "tuple"))) vNil)))) (sSeq (sIf (dOrT (dNotT (dTst (dCall (on2 fIsi) (vCons (vS 0) (vCons (vT (dC (.ty "tuple"))) vNil))))) (dTst (dBin fNe (vT (dCall fLenU (vCons (vS 0) vNil))) (vT (dCall fLenU (vCons (vS 1) vNil)))))) (sRet (dC (.bl false))) sNext)
  (sSeq (sFor (iOps (vCons (vT (dCall fLenU (vCons (vS 1) vNil))) vNil) gR1) (tName 2) (sIf (dNotT (dTst (dCallF dR [0, 1] (cCons (gVal (dBin fIx (vS 0) (vS 2))) (cCons (gVal (dBin fIx (vS 1) (vS 2))) cNil))))) (sRet (dC (.bl false))) sNext))
  (sRet (dC (.bl true))))) sNext)
  (sSeq (sIf (dTst (dBin fIsN (vS 1) (vT (dC .non)))) (sRet (dBin fIsN (vS 0) (vT (dC .non)))) sNext)
  (sSeq (sIf (dTst (dCall (on2 fIsi) (vCons (vS 1) (vCons (vT (dC (.ty "str"))) vNil)))) (sRet (dAndV (dCall (on2 fIsi) (vCons (vS 0) (vCons (vT (dC (.ty "str"))) vNil))) (dBin fEq (vS 0) (vS 1)))) sNext)
  (sSeq (sIf (dTst (dCall (on2 fIsi) (vCons (vS 1) (vCons (vT (dC (.ty "bool"))) vNil)))) (sRet (dAndV (dCall (on2 fIsi) (vCons (vS 0) (vCons (vT (dC (.ty "bool"))) vNil))) (dBin fEq (vS 0) (vS 1)))) sNext)
  (sRet (dAndV (dCall (on2 fIsi) (vCons (vS 0) (vCons (vT (dC (.ty "int"))) vNil))) (dAndV (dNotV (dCall (on2 fIsi) (vCons (vS 0) (vCons (vT (dC (.ty "bool"))) vNil)))) (dBin fEq (vS 0) (vS 1)))))))))
def d__law_same : Nat → Den
  | 0 => fun _ => .bad
  | k + 1 => denFn [true, true] 3 (b__law_same (d__law_same k))
theorem ok__law_same : ∀ k : Nat, FnOk P w K mg base (L2.CX P w) (0 + k) Fx.a__law_same Fx.fd__law_same ["actual", "due"] (spD ⟨K, Fx.cl.f, none⟩ 2 (d__law_same k))
  | 0 => FnOk.bad Fx.F__law_same sc__law_same
  | k + 1 => by
    have hR := ok__law_same k
    refine fn_ok (cl := Fx.cl) (k := 0 + k) rfl Fx.F__law_same sc__law_same rfl (by decide) fun cdv A outer s H E hr => ?_
    exact (show HSs _ _ _ _ (b__law_same (d__law_same k)) from (hss_cons (hs_if (ht_val (he_callB (f := on2 fIsi) call_isi cIsi (by rfl) Fx.z_isinstance rfl (hvs_cons (hv_name (pv 1)) (hvs_cons (hv_of (he_ty (by rfl) Fx.z_tuple rfl)) hvs_nil)))) (hss_cons (hs_if (ht_w (hw_or (ht_not (ht_val (he_callB (f := on2 fIsi) call_isi cIsi (by rfl) Fx.z_isinstance rfl (hvs_cons (hv_name (pv 0)) (hvs_cons (hv_of (he_ty (by rfl) Fx.z_tuple rfl)) hvs_nil))))) (hw_or1 (ht_cmp (f := fNe) (OpR.or op_ne (op_neD hr.units)) bNe (hv_of (he_callB (f := fLenU) (CallR.or call_len_seq (CallR.or call_len_str call_lenD)) cLenU (by rfl) Fx.z_len rfl (hvs_cons (hv_name (pv 0)) hvs_nil))) (hv_of (he_callB (f := fLenU) (CallR.or call_len_seq (CallR.or call_len_str call_lenD)) cLenU (by rfl) Fx.z_len rfl (hvs_cons (hv_name (pv 1)) hvs_nil))) (nomark _))))) (hss_one (hs_ret he_bl)) hss_nil)
      (hss_cons (hs_for (ss := [2]) (passes_of rfl) rfl (hi_range1 (by rfl) Fx.z_range (hvs_cons (hv_of (he_callB (f := fLenU) (CallR.or call_len_seq (CallR.or call_len_str call_lenD)) cLenU (by rfl) Fx.z_len rfl (hvs_cons (hv_name (pv 1)) hvs_nil))) hvs_nil)) (hg_name (pg_name (i := 2) sc__law_same.nd rfl (by first | exact .inl rfl | exact .inr rfl))) (hss_one (hs_if (ht_not (ht_val (he_fn hR (hr.mono (by omega)) (takes_of rfl rfl rfl rfl) (by rfl) Fx.g__law_same Fx.F__law_same.kp (kb__law_same_2_ Fx) (hc_cons (ga_val (he_sbs (hu_of hr) (hv_name (pv 0)) (hv_name (pv 2)) (fun _ _ => rfl))) (hc_cons (ga_val (he_sbs (hu_of hr) (hv_name (pv 1)) (hv_name (pv 2)) (fun _ _ => rfl))) hc_nil))))) (hss_one (hs_ret he_bl)) hss_nil)))
      (hss_one (hs_ret he_bl)))) hss_nil)
      (hss_cons (hs_if (ht_cmp (f := fIsN) op_isN bIsN (hv_name (pv 1)) (hv_of he_non) (nomark _)) (hss_one (hs_ret (he_cmp (f := fIsN) op_isN bIsN (hv_name (pv 0)) (hv_of he_non) (nomark _)))) hss_nil)
      (hss_cons (hs_if (ht_val (he_callB (f := on2 fIsi) call_isi cIsi (by rfl) Fx.z_isinstance rfl (hvs_cons (hv_name (pv 1)) (hvs_cons (hv_of (he_ty (by rfl) Fx.z_str rfl)) hvs_nil)))) (hss_one (hs_ret (he_and (he_callB (f := on2 fIsi) call_isi cIsi (by rfl) Fx.z_isinstance rfl (hvs_cons (hv_name (pv 0)) (hvs_cons (hv_of (he_ty (by rfl) Fx.z_str rfl)) hvs_nil))) (he_one (he_cmp (f := fEq) (OpR.or op_eq (op_eqD hr.units)) bEq (hv_name (pv 0)) (hv_name (pv 1)) (nomark _)))))) hss_nil)
      (hss_cons (hs_if (ht_val (he_callB (f := on2 fIsi) call_isi cIsi (by rfl) Fx.z_isinstance rfl (hvs_cons (hv_name (pv 1)) (hvs_cons (hv_of (he_ty (by rfl) Fx.z_bool rfl)) hvs_nil)))) (hss_one (hs_ret (he_and (he_callB (f := on2 fIsi) call_isi cIsi (by rfl) Fx.z_isinstance rfl (hvs_cons (hv_name (pv 0)) (hvs_cons (hv_of (he_ty (by rfl) Fx.z_bool rfl)) hvs_nil))) (he_one (he_cmp (f := fEq) (OpR.or op_eq (op_eqD hr.units)) bEq (hv_name (pv 0)) (hv_name (pv 1)) (nomark _)))))) hss_nil)
      (hss_one (hs_ret (he_and (he_callB (f := on2 fIsi) call_isi cIsi (by rfl) Fx.z_isinstance rfl (hvs_cons (hv_name (pv 0)) (hvs_cons (hv_of (he_ty (by rfl) Fx.z_int rfl)) hvs_nil))) (he_and (he_not (he_callB (f := on2 fIsi) call_isi cIsi (by rfl) Fx.z_isinstance rfl (hvs_cons (hv_name (pv 0)) (hvs_cons (hv_of (he_ty (by rfl) Fx.z_bool rfl)) hvs_nil)))) (he_one (he_cmp (f := fEq) (OpR.or op_eq (op_eqD hr.units)) bEq (hv_name (pv 0)) (hv_name (pv 1)) (nomark _))))))))))))
theorem kb__law_switches_1_ : KB K Fx.fd__law_switches ["many"] [] 1 0 [0] := KB.of Fx.F__law_switches (fun _ _ _ _ _ _ us ws h0 h1 => match us, ws, h0, h1 with | [_], [], _, _ => rfl) (by decide)
def b__law_switches : En → Out :=
  (sSeq (sAsg (dLst aNil) (tName 1))
  (sSeq (sFor (iOps (vCons (vS 0) vNil) gR1) (tName 2) (sAsg (dBin fAdd (vS 1) (vT (dLc (iOps (vCons (vT (dBin fMod (vT (dCall (on1 fInt) (vCons (vS 2) vNil))) (vT (dC (.int 2))))) (vCons (vT (dBin fSub (vS 0) (vT (dC (.int 1))))) (vCons (vT (dC (.int 2))) vNil))) gR3) [3] (tName 3) dYes (dTup (aCons (dVar 2) (aCons (dVar 3) aNil)))))) (tName 1)))
  (sRet (dMove 1))))
def d__law_switches : Den := denFn [true] 4 b__law_switches
theorem ok__law_switches : FnOk P w K mg base (L2.CX P w) 1 Fx.a__law_switches Fx.fd__law_switches ["many"] (spD ⟨K, Fx.cl.f, none⟩ 1 d__law_switches) := by
  refine fn_ok (cl := Fx.cl) (k := 0) rfl Fx.F__law_switches sc__law_switches rfl (by decide) fun cdv A outer s H E hr => ?_
  exact (show HSs _ _ _ _ b__law_switches from (hss_cons (hs_asg (ss := [1]) (he_lst ha_nil) (hg_name (pg_name (i := 1) sc__law_switches.nd rfl (by first | exact .inl rfl | exact .inr rfl))))
      (hss_cons (hs_for (ss := [2]) (passes_of rfl) rfl (hi_range1 (by rfl) Fx.z_range (hvs_cons (hv_name (pv 0)) hvs_nil)) (hg_name (pg_name (i := 2) sc__law_switches.nd rfl (by first | exact .inl rfl | exact .inr rfl))) (hss_one (hs_asg (ss := [1]) (he_add (hv_name (pv 1)) (hv_of (he_lc (own := [("j", 3)]) (di := (iOps (vCons (vT (dBin fMod (vT (dCall (on1 fInt) (vCons (vS 2) vNil))) (vT (dC (.int 2))))) (vCons (vT (dBin fSub (vS 0) (vT (dC (.int 1))))) (vCons (vT (dC (.int 2))) vNil))) gR3)) (t := (tName 3)) (dc := dYes) (de := (dTup (aCons (dVar 2) (aCons (dVar 3) aNil)))) (pe_lc rfl sc__law_switches.nd (hi_range3 (by rfl) Fx.z_range (hvs_cons (hv_of (he_mod (hv_of (he_callTy (f := (on1 fInt)) call_int1 cInt (by rfl) Fx.z_int rfl (hvs_cons (hv_name (pv 2)) hvs_nil))) (hv_of he_int))) (hvs_cons (hv_of (he_sub (hv_name (pv 0)) (hv_of he_int))) (hvs_cons (hv_of he_int) hvs_nil)))) (blkOk_by (own := [("j", 3)]) (N := sN__law_switches) (sc := defScope s__law_switches) (by decide +kernel)) (fun _ _ _ _ _ => (hg_name (pg_name (i := 3) sc__law_switches.nd rfl (by first | exact .inl rfl | exact .inr rfl)))) (fun _ _ _ _ _ => hts_nil) (fun _ _ _ _ _ => (he_tup (ha_cons (he_var (pv 2)) (ha_cons (he_var (pv 3)) ha_nil)))))))) (hg_name (pg_name (i := 1) sc__law_switches.nd rfl (by first | exact .inl rfl | exact .inr rfl))))))
      (hss_one (hs_ret (he_move (pv 1)))))))
theorem kb__law_sources_2_ : KB K Fx.fd__law_sources ["many", "settings"] [] 2 0 [0, 1] := KB.of Fx.F__law_sources (fun _ _ _ _ _ _ us ws h0 h1 => match us, ws, h0, h1 with | [_, _], [], _, _ => rfl) (by decide)
def b__law_sources : En → Out :=
  (sSeq (sAsg (dLRg (rg1 (vS 0))) (tName 2))
  (sSeq (sAsg (dCallF d__law_switches [0] (cCons (gName 0) cNil)) (tName 3))
  (sSeq (sFor (iOps (vCons (vT (dCall fLenU (vCons (vS 3) vNil))) vNil) gR1) (tName 4) (sIf (dTst (dBin fEq (vT (dBin fIx (vS 1) (vS 4))) (vT (dC (.int 1))))) (sSeq (sAsg (dBin fIx (vT (dBin fIx (vS 3) (vS 4))) (vT (dC (.int 1)))) (tName 5))
  (sAsg (dBin fAdd (vT (dBin fAdd (vT (dSl fSl (vS 2) oNone (oSome (vS 5)))) (vT (dLst (aCons (dBin fIx (vS 2) (vT (dBin fAdd (vS 5) (vT (dC (.int 1)))))) (aCons (dBin fIx (vS 2) (vS 5)) aNil)))))) (vT (dSl fSl (vS 2) (oSome (vT (dBin fAdd (vS 5) (vT (dC (.int 2)))))) oNone))) (tName 2))) sNext))
  (sRet (dCall (on1 fTuple) (vCons (vS 2) vNil))))))
def d__law_sources : Den := denFn [true, true] 6 b__law_sources
theorem ok__law_sources : FnOk P w K mg base (L2.CX P w) 2 Fx.a__law_sources Fx.fd__law_sources ["many", "settings"] (spD ⟨K, Fx.cl.f, none⟩ 2 d__law_sources) := by
  refine fn_ok (cl := Fx.cl) (k := 1) rfl Fx.F__law_sources sc__law_sources rfl (by decide) fun cdv A outer s H E hr => ?_
  exact (show HSs _ _ _ _ b__law_sources from (hss_cons (hs_asg (ss := [2]) (he_listRg rfl (by rfl) Fx.z_list (hrg_1 (by rfl) Fx.z_range (hv_name (pv 0)))) (hg_name (pg_name (i := 2) sc__law_sources.nd rfl (by first | exact .inl rfl | exact .inr rfl))))
      (hss_cons (hs_asg (ss := [3]) (he_fn (ok__law_switches Fx) (hr.mono (by first | decide | omega)) (takes_of rfl rfl rfl rfl) (by rfl) Fx.g__law_switches Fx.F__law_switches.kp (kb__law_switches_1_ Fx) (hc_cons (ga_name (pv 0)) hc_nil)) (hg_name (pg_name (i := 3) sc__law_sources.nd rfl (by first | exact .inl rfl | exact .inr rfl))))
      (hss_cons (hs_for (ss := [4]) (passes_of rfl) rfl (hi_range1 (by rfl) Fx.z_range (hvs_cons (hv_of (he_callB (f := fLenU) (CallR.or call_len_seq (CallR.or call_len_str call_lenD)) cLenU (by rfl) Fx.z_len rfl (hvs_cons (hv_name (pv 3)) hvs_nil))) hvs_nil)) (hg_name (pg_name (i := 4) sc__law_sources.nd rfl (by first | exact .inl rfl | exact .inr rfl))) (hss_one (hs_if (ht_cmp (f := fEq) (OpR.or op_eq (op_eqD hr.units)) bEq (hv_of (he_sbs (hu_of hr) (hv_name (pv 1)) (hv_name (pv 4)) (fun _ _ => rfl))) (hv_of he_int) (nomark _)) (hss_cons (hs_asg (ss := [5]) (he_sbs (hu_of hr) (hv_of (he_sbs (hu_of hr) (hv_name (pv 3)) (hv_name (pv 4)) (fun _ _ => rfl))) (hv_of he_int) (fun _ _ => rfl)) (hg_name (pg_name (i := 5) sc__law_sources.nd rfl (by first | exact .inl rfl | exact .inr rfl))))
      (hss_one (hs_asg (ss := [2]) (he_add (hv_of (he_add (hv_of (he_sl (hv_name (pv 2)) ho_none (ho_some (hv_name (pv 5))))) (hv_of (he_lst (ha_cons (he_sbs (hu_of hr) (hv_name (pv 2)) (hv_of (he_add (hv_name (pv 5)) (hv_of he_int))) (fun _ _ => rfl)) (ha_cons (he_sbs (hu_of hr) (hv_name (pv 2)) (hv_name (pv 5)) (fun _ _ => rfl)) ha_nil)))))) (hv_of (he_sl (hv_name (pv 2)) (ho_some (hv_of (he_add (hv_name (pv 5)) (hv_of he_int)))) ho_none))) (hg_name (pg_name (i := 2) sc__law_sources.nd rfl (by first | exact .inl rfl | exact .inr rfl)))))) hss_nil)))
      (hss_one (hs_ret (he_callTy (f := (on1 fTuple)) call_tupleN cTuple (by rfl) Fx.z_tuple rfl (hvs_cons (hv_name (pv 2)) hvs_nil))))))))
theorem kb__law_goals_1_ : KB K Fx.fd__law_goals ["sources"] [] 1 0 [0] := KB.of Fx.F__law_goals (fun _ _ _ _ _ _ us ws h0 h1 => match us, ws, h0, h1 with | [_], [], _, _ => rfl) (by decide)
def b__law_goals : En → Out :=
  (sSeq (sAsg (dCall fLenU (vCons (vS 0) vNil)) (tName 1))
  (sSeq (sAsg (dLc (iOps (vCons (vS 1) vNil) gR1) [7] (tName 7) dYes (dOr (dMeth "tuple" fTupIdx (vS 0) (vCons (vS 7) vNil)) (dMeth "list" fLstIdx (vS 0) (vCons (vS 7) vNil)))) (tName 2))
  (sSeq (sAsg (dLst aNil) (tName 3))
  (sSeq (sFor (iAny (dCallF d__law_switches [0] (cCons (gName 1) cNil))) (tTupl (tgCons (tName 4) (tgCons (tName 5) tgNil))) (sSeq (sAsg (dBin fGt (vT (dBin fIx (vS 2) (vS 5))) (vT (dBin fIx (vS 2) (vT (dBin fAdd (vS 5) (vT (dC (.int 1)))))))) (tName 6))
  (sSeq (sExpr (dMut 3 fAppend (aCons (dCall (on1 fInt) (vCons (vS 6) vNil)) aNil)))
  (sIf (dTst (dVar 6)) (sAsg (dBin fAdd (vT (dBin fAdd (vT (dSl fSl (vS 2) oNone (oSome (vS 5)))) (vT (dLst (aCons (dBin fIx (vS 2) (vT (dBin fAdd (vS 5) (vT (dC (.int 1)))))) (aCons (dBin fIx (vS 2) (vS 5)) aNil)))))) (vT (dSl fSl (vS 2) (oSome (vT (dBin fAdd (vS 5) (vT (dC (.int 2)))))) oNone))) (tName 2)) sNext))))
  (sRet (dCall (on1 fTuple) (vCons (vS 3) vNil)))))))
def d__law_goals : Den := denFn [true] 8 b__law_goals
theorem ok__law_goals : FnOk P w K mg base (L2.CX P w) 2 Fx.a__law_goals Fx.fd__law_goals ["sources"] (spD ⟨K, Fx.cl.f, none⟩ 1 d__law_goals) := by
  refine fn_ok (cl := Fx.cl) (k := 1) rfl Fx.F__law_goals sc__law_goals rfl (by decide) fun cdv A outer s H E hr => ?_
  exact (show HSs _ _ _ _ b__law_goals from (hss_cons (hs_asg (ss := [1]) (he_callB (f := fLenU) (CallR.or call_len_seq (CallR.or call_len_str call_lenD)) cLenU (by rfl) Fx.z_len rfl (hvs_cons (hv_name (pv 0)) hvs_nil)) (hg_name (pg_name (i := 1) sc__law_goals.nd rfl (by first | exact .inl rfl | exact .inr rfl))))
      (hss_cons (hs_setLc (own := [("place", 7)]) (di := (iOps (vCons (vS 1) vNil) gR1)) (t := (tName 7)) (dc := dYes) (de := (dOr (dMeth "tuple" fTupIdx (vS 0) (vCons (vS 7) vNil)) (dMeth "list" fLstIdx (vS 0) (vCons (vS 7) vNil)))) (ps_setLc (i := 2) rfl sc__law_goals.nd rfl rfl (sw_true rfl rfl rfl (by decide +kernel)) (hi_range1 (by rfl) Fx.z_range (hvs_cons (hv_name (pv 1)) hvs_nil)) (blkOk_by (own := [("place", 7)]) (N := sN__law_goals) (sc := defScope s__law_goals) (by decide +kernel)) (fun _ _ _ _ _ => (hg_name (pg_name (i := 7) sc__law_goals.nd rfl (by first | exact .inl rfl | exact .inr rfl)))) (fun _ _ _ _ _ => hts_nil) (fun _ _ _ _ _ => (he_alt (he_meth (T := "tuple") mTupIndex PySem.F.plainAttrs_tuple PySem.F.slot_tuple_index PySem.F.type_tuple_index mt_tupIdx (hv_name (pv 0)) (hvs_cons (hv_name (pv 7)) hvs_nil)) (he_meth (T := "list") mLstIndex PySem.F.plainAttrs_list PySem.F.slot_list_index PySem.F.type_list_index mt_lstIdx (hv_name (pv 0)) (hvs_cons (hv_name (pv 7)) hvs_nil))))))
      (hss_cons (hs_asg (ss := [3]) (he_lst ha_nil) (hg_name (pg_name (i := 3) sc__law_goals.nd rfl (by first | exact .inl rfl | exact .inr rfl))))
      (hss_cons (hs_for (ss := [4, 5]) (passes_of rfl) rfl (hi_any (he_fn (ok__law_switches Fx) (hr.mono (by first | decide | omega)) (takes_of rfl rfl rfl rfl) (by rfl) Fx.g__law_switches Fx.F__law_switches.kp (kb__law_switches_1_ Fx) (hc_cons (ga_name (pv 1)) hc_nil))) (hg_tup rfl (hgs_cons (hg_name (pg_name (i := 4) sc__law_goals.nd rfl (by first | exact .inl rfl | exact .inr rfl))) (hgs_cons (hg_name (pg_name (i := 5) sc__law_goals.nd rfl (by first | exact .inl rfl | exact .inr rfl))) hgs_nil)) (hlen := (tg_len (tg_len tg_len0)))) (hss_cons (hs_asg (ss := [6]) (he_cmp (f := fGt) op_gt bGt (hv_of (he_sbs (hu_of hr) (hv_name (pv 2)) (hv_name (pv 5)) (fun _ _ => rfl))) (hv_of (he_sbs (hu_of hr) (hv_name (pv 2)) (hv_of (he_add (hv_name (pv 5)) (hv_of he_int))) (fun _ _ => rfl))) (nomark _)) (hg_name (pg_name (i := 6) sc__law_goals.nd rfl (by first | exact .inl rfl | exact .inr rfl))))
      (hss_cons (hs_expr (he_mut (id := "list.append") mAppend (pe_bm PySem.F.plainAttrs_list PySem.F.slot_list_append PySem.F.type_list_append mt_append (pv 3) (ha_cons (he_callTy (f := (on1 fInt)) call_int1 cInt (by rfl) Fx.z_int rfl (hvs_cons (hv_name (pv 6)) hvs_nil)) ha_nil))))
      (hss_one (hs_if (ht_val (he_var (pv 6))) (hss_one (hs_asg (ss := [2]) (he_add (hv_of (he_add (hv_of (he_sl (hv_name (pv 2)) ho_none (ho_some (hv_name (pv 5))))) (hv_of (he_lst (ha_cons (he_sbs (hu_of hr) (hv_name (pv 2)) (hv_of (he_add (hv_name (pv 5)) (hv_of he_int))) (fun _ _ => rfl)) (ha_cons (he_sbs (hu_of hr) (hv_name (pv 2)) (hv_name (pv 5)) (fun _ _ => rfl)) ha_nil)))))) (hv_of (he_sl (hv_name (pv 2)) (ho_some (hv_of (he_add (hv_name (pv 5)) (hv_of he_int)))) ho_none))) (hg_name (pg_name (i := 2) sc__law_goals.nd rfl (by first | exact .inl rfl | exact .inr rfl))))) hss_nil)))))
      (hss_one (hs_ret (he_callTy (f := (on1 fTuple)) call_tupleN cTuple (by rfl) Fx.z_tuple rfl (hvs_cons (hv_name (pv 3)) hvs_nil)))))))))
theorem kb__law_refused_3_ : KB K Fx.fd__law_refused ["many", "value", "which"] [] 3 0 [0, 1, 2] := KB.of Fx.F__law_refused (fun _ _ _ _ _ _ us ws h0 h1 => match us, ws, h0, h1 with | [_, _, _], [], _, _ => rfl) (by decide)
def b__law_refused : En → Out :=
  (sSeq (sTryAs 3 (sub_c "HushError") (sIf (dTst (dBin fEq (vS 2) (vT (dC (.int 0))))) (sExpr (dCallF d_source_places [0, 1] (cCons (gName 0) (cCons (gName 1) cNil)))) (sIf (dTst (dBin fGt (vS 0) (vT (dC (.int 3))))) (sExpr (dCallF d_settings_for [0] (cCons (gName 1) cNil))) (sExpr (dCallF d_settings_for [0] (cCons (gName 1) cNil))))) (fun c => (sSeq (sIf (dTst (dBin fEq (vS 2) (vT (dC (.int 0))))) (sRet (dIsE 3 (sub_b "BadTape" c))) sNext)
  (sRet (dIsE 3 (sub_b "BadStatement" c))))))
  (sRet (dC (.bl false))))
def d__law_refused : Den := denFn [true, true, true] 4 b__law_refused
theorem ok__law_refused : FnOk P w K mg base (L2.CX P w) 4 Fx.a__law_refused Fx.fd__law_refused ["many", "value", "which"] (spD ⟨K, Fx.cl.f, none⟩ 3 d__law_refused) := by
  refine fn_ok (cl := Fx.cl) (k := 3) rfl Fx.F__law_refused sc__law_refused rfl (by decide) fun cdv A outer s H E hr => ?_
  exact (show HSs _ _ _ _ b__law_refused from (hss_cons (hs_try_as (i := 3) (sub := sub_c "HushError") (hd := fun c => (sSeq (sIf (dTst (dBin fEq (vS 2) (vT (dC (.int 0))))) (sRet (dIsE 3 (sub_b "BadTape" c))) sNext)
  (sRet (dIsE 3 (sub_b "BadStatement" c))))) rfl rfl sc__law_refused.nd rfl rfl (Fx.nm_HushError (by rfl)) (takes_of rfl rfl rfl rfl) Fx.sub_HushError (fun W1 pn1 xe1 tk1 po1 => (hss_one (hs_if (ht_cmp (f := fEq) (OpR.or op_eq (op_eqD hr.units)) bEq (hv_name (pv 2)) (hv_of he_int) (nomark _)) (hss_one (hs_expr (he_fn (ok_source_places Fx) (hr.mono (by first | decide | omega)) tk1 (by rfl) Fx.g_source_places Fx.F_source_places.kp (kb_source_places_2_ Fx) (hc_cons (ga_name (pv 0)) (hc_cons (ga_name (pv 1)) hc_nil))))) (hss_one (hs_if (ht_cmp (f := fGt) op_gt bGt (hv_name (pv 0)) (hv_of he_int) (nomark _)) (hss_one (hs_expr (he_fnK0 (ok_settings_for Fx) (hr.mono (by first | decide | omega)) tk1 (by rfl) Fx.g_settings_for Fx.F_settings_for.kp (kb_settings_for_0_places Fx) (hck_cons (ga_name (pv 1)) hck_nil)))) (hss_one (hs_expr (he_fn (ok_settings_for Fx) (hr.mono (by first | decide | omega)) tk1 (by rfl) Fx.g_settings_for Fx.F_settings_for.kp (kb_settings_for_1_ Fx) (hc_cons (ga_name (pv 1)) hc_nil))))))))) (fun c C a oe pn hc hz hf => (hss_cons (hs_if (ht_cmp (f := fEq) (OpR.or op_eq (op_eqD hr.units)) bEq (hv_name (pv 2)) (hv_of he_int) (nomark _)) (hss_one (hs_ret (he_isE (Fx.exc c C hc) hz hf (by rfl) Fx.z_isinstance (pv 3) (pe_glob (v := .ref Fx.C_BadTape) (by rfl) Fx.gc_BadTape rfl) (fun _ h => h) (Fx.kit_BadTape c C hc)))) hss_nil)
      (hss_one (hs_ret (he_isE (Fx.exc c C hc) hz hf (by rfl) Fx.z_isinstance (pv 3) (pe_glob (v := .ref Fx.C_BadStatement) (by rfl) Fx.gc_BadStatement rfl) (fun _ h => h) (Fx.kit_BadStatement c C hc)))))))
      (hss_one (hs_ret he_bl))))
theorem kb__law_wrong_settings_3_ : KB K Fx.fd__law_wrong_settings ["pool", "many", "settings"] [] 3 0 [0, 1, 2] := KB.of Fx.F__law_wrong_settings (fun _ _ _ _ _ _ us ws h0 h1 => match us, ws, h0, h1 with | [_, _, _], [], _, _ => rfl) (by decide)
def b__law_wrong_settings : En → Out :=
  (sSeq (sAsg (dLst (aCons (dBin fAdd (vS 2) (vT (dTup (aCons (dC (.int 0)) aNil)))) (aCons (dBin fAdd (vS 2) (vT (dTup (aCons (dC (.int 1)) aNil)))) (aCons (dBin fAdd (vS 2) (vT (dTup (aCons (dC (.int 0)) (aCons (dC (.int 1)) aNil))))) aNil)))) (tName 3))
  (sSeq (sIf (dTst (dBin fGt (vT (dCall fLenU (vCons (vS 2) vNil))) (vT (dC (.int 0))))) (sSeq (sAsg (dCallF d__law_take [0, 1] (cCons (gName 0) (cCons (gVal (dCall fLenU (vCons (vS 2) vNil))) cNil))) (tName 4))
  (sSeq (sAsg (dBin fAdd (vS 3) (vT (dLst (aCons (dSl fSl (vS 2) (oSome (vT (dC (.int 1)))) oNone) (aCons (dTup aNil) aNil))))) (tName 3))
  (sExpr (dMut 3 fAppend (aCons (dBin fAdd (vT (dBin fAdd (vT (dSl fSl (vS 2) oNone (oSome (vS 4)))) (vT (dTup (aCons (dBin fIx (vT (dLst (aCons (dC (.int 2)) (aCons (dUn fNeg (vT (dC (.int 1)))) (aCons (dBin fPow (vT (dC (.int 10))) (vT (dC (.int 20)))) aNil))))) (vT (dCallF d__law_take [0, 1] (cCons (gName 0) (cCons (gVal (dC (.int 3))) cNil))))) aNil))))) (vT (dSl fSl (vS 2) (oSome (vT (dBin fAdd (vS 4) (vT (dC (.int 1)))))) oNone))) aNil))))) sNext)
  (sRet (dMove 3))))
def d__law_wrong_settings : Den := denFn [true, true, true] 5 b__law_wrong_settings
theorem ok__law_wrong_settings : FnOk P w K mg base (L2.CX P w) 3 Fx.a__law_wrong_settings Fx.fd__law_wrong_settings ["pool", "many", "settings"] (spD ⟨K, Fx.cl.f, none⟩ 3 d__law_wrong_settings) := by
  refine fn_ok (cl := Fx.cl) (k := 2) rfl Fx.F__law_wrong_settings sc__law_wrong_settings rfl (by decide) fun cdv A outer s H E hr => ?_
  exact (show HSs _ _ _ _ b__law_wrong_settings from (hss_cons (hs_asg (ss := [3]) (he_lst (ha_cons (he_add (hv_name (pv 2)) (hv_of (he_tup (ha_cons he_int ha_nil)))) (ha_cons (he_add (hv_name (pv 2)) (hv_of (he_tup (ha_cons he_int ha_nil)))) (ha_cons (he_add (hv_name (pv 2)) (hv_of (he_tup (ha_cons he_int (ha_cons he_int ha_nil))))) ha_nil)))) (hg_name (pg_name (i := 3) sc__law_wrong_settings.nd rfl (by first | exact .inl rfl | exact .inr rfl))))
      (hss_cons (hs_if (ht_cmp (f := fGt) op_gt bGt (hv_of (he_callB (f := fLenU) (CallR.or call_len_seq (CallR.or call_len_str call_lenD)) cLenU (by rfl) Fx.z_len rfl (hvs_cons (hv_name (pv 2)) hvs_nil))) (hv_of he_int) (nomark _)) (hss_cons (hs_asg (ss := [4]) (he_fn (ok__law_take Fx) (hr.mono (by first | decide | omega)) (takes_of rfl rfl rfl rfl) (by rfl) Fx.g__law_take Fx.F__law_take.kp (kb__law_take_2_ Fx) (hc_cons (ga_name (pv 0)) (hc_cons (ga_val (he_callB (f := fLenU) (CallR.or call_len_seq (CallR.or call_len_str call_lenD)) cLenU (by rfl) Fx.z_len rfl (hvs_cons (hv_name (pv 2)) hvs_nil))) hc_nil))) (hg_name (pg_name (i := 4) sc__law_wrong_settings.nd rfl (by first | exact .inl rfl | exact .inr rfl))))
      (hss_cons (hs_asg (ss := [3]) (he_add (hv_name (pv 3)) (hv_of (he_lst (ha_cons (he_sl (hv_name (pv 2)) (ho_some (hv_of he_int)) ho_none) (ha_cons (he_tup ha_nil) ha_nil))))) (hg_name (pg_name (i := 3) sc__law_wrong_settings.nd rfl (by first | exact .inl rfl | exact .inr rfl))))
      (hss_one (hs_expr (he_mut (id := "list.append") mAppend (pe_bm PySem.F.plainAttrs_list PySem.F.slot_list_append PySem.F.type_list_append mt_append (pv 3) (ha_cons (he_add (hv_of (he_add (hv_of (he_sl (hv_name (pv 2)) ho_none (ho_some (hv_name (pv 4))))) (hv_of (he_tup (ha_cons (he_sbs (hu_of hr) (hv_of (he_lst (ha_cons he_int (ha_cons (he_un un_neg uNeg (hv_of he_int)) (ha_cons (he_pow (hv_of he_int) (hv_of he_int)) ha_nil))))) (hv_of (he_fn (ok__law_take Fx) (hr.mono (by first | decide | omega)) (takes_of rfl rfl rfl rfl) (by rfl) Fx.g__law_take Fx.F__law_take.kp (kb__law_take_2_ Fx) (hc_cons (ga_name (pv 0)) (hc_cons (ga_val he_int) hc_nil)))) (fun _ _ => rfl)) ha_nil))))) (hv_of (he_sl (hv_name (pv 2)) (ho_some (hv_of (he_add (hv_name (pv 4)) (hv_of he_int)))) ho_none))) ha_nil))))))) hss_nil)
      (hss_one (hs_ret (he_move (pv 3)))))))
theorem kb__law_wrong_orders_2_ : KB K Fx.fd__law_wrong_orders ["pool", "order"] [] 2 0 [0, 1] := KB.of Fx.F__law_wrong_orders (fun _ _ _ _ _ _ us ws h0 h1 => match us, ws, h0, h1 with | [_, _], [], _, _ => rfl) (by decide)
def b__law_wrong_orders : En → Out :=
  (sSeq (sAsg (dCall fLenU (vCons (vS 1) vNil)) (tName 2))
  (sSeq (sAsg (dLst (aCons (dBin fAdd (vS 1) (vT (dTup (aCons (dBin fAdd (vS 2) (vT (dC (.int 1)))) aNil)))) (aCons (dBin fAdd (vS 1) (vT (dTup (aCons (dUn fNeg (vT (dC (.int 1)))) aNil)))) aNil))) (tName 3))
  (sSeq (sIf (dTst (dBin fGt (vS 2) (vT (dC (.int 0))))) (sSeq (sAsg (dCallF d__law_take [0, 1] (cCons (gName 0) (cCons (gName 2) cNil))) (tName 4))
  (sSeq (sExpr (dMut 3 fAppend (aCons (dBin fAdd (vS 1) (vT (dTup (aCons (dBin fIx (vS 1) (vS 4)) aNil)))) aNil)))
  (sExpr (dMut 3 fAppend (aCons (dBin fAdd (vT (dBin fAdd (vT (dSl fSl (vS 1) oNone (oSome (vS 4)))) (vT (dTup (aCons (dBin fIx (vT (dLst (aCons (dVar 2) (aCons (dUn fNeg (vT (dC (.int 1)))) (aCons (dBin fSub (vT (dBin fIx (vS 1) (vS 4))) (vS 2)) (aCons (dBin fPow (vT (dC (.int 10))) (vT (dC (.int 20)))) aNil)))))) (vT (dCallF d__law_take [0, 1] (cCons (gName 0) (cCons (gVal (dC (.int 4))) cNil))))) aNil))))) (vT (dSl fSl (vS 1) (oSome (vT (dBin fAdd (vS 4) (vT (dC (.int 1)))))) oNone))) aNil))))) sNext)
  (sSeq (sIf (dTst (dBin fGt (vS 2) (vT (dC (.int 1))))) (sSeq (sAsg (dCallF d__law_take [0, 1] (cCons (gName 0) (cCons (gName 2) cNil))) (tName 4))
  (sExpr (dMut 3 fAppend (aCons (dBin fAdd (vT (dBin fAdd (vT (dSl fSl (vS 1) oNone (oSome (vS 4)))) (vT (dTup (aCons (dBin fIx (vS 1) (vT (dBin fSub (vS 4) (vT (dC (.int 1)))))) aNil))))) (vT (dSl fSl (vS 1) (oSome (vT (dBin fAdd (vS 4) (vT (dC (.int 1)))))) oNone))) aNil)))) sNext)
  (sSeq (sIf (dTst (dBin fGt (vS 2) (vT (dC (.int 2))))) (sSeq (sAsg (dBin fAdd (vT (dC (.int 1))) (vT (dCallF d__law_take [0, 1] (cCons (gName 0) (cCons (gVal (dBin fSub (vS 2) (vT (dC (.int 2))))) cNil))))) (tName 5))
  (sExpr (dMut 3 fAppend (aCons (dCall (on1 fTuple) (vCons (vT (dLc (iAny (dVar 1)) [6] (tName 6) dYes (dBin fIx (vT (dLst (aCons (dVar 6) (aCons (dVar 5) aNil)))) (vT (dCall (on1 fInt) (vCons (vT (dBin fInU (vS 6) (vT (dLst (aCons (dBin fSub (vS 5) (vT (dC (.int 1)))) (aCons (dBin fAdd (vS 5) (vT (dC (.int 1)))) aNil)))))) vNil)))))) vNil)) aNil)))) sNext)
  (sRet (dMove 3)))))))
def d__law_wrong_orders : Den := denFn [true, true] 7 b__law_wrong_orders
theorem ok__law_wrong_orders : FnOk P w K mg base (L2.CX P w) 3 Fx.a__law_wrong_orders Fx.fd__law_wrong_orders ["pool", "order"] (spD ⟨K, Fx.cl.f, none⟩ 2 d__law_wrong_orders) := by
  refine fn_ok (cl := Fx.cl) (k := 2) rfl Fx.F__law_wrong_orders sc__law_wrong_orders rfl (by decide) fun cdv A outer s H E hr => ?_
  exact (show HSs _ _ _ _ b__law_wrong_orders from (hss_cons (hs_asg (ss := [2]) (he_callB (f := fLenU) (CallR.or call_len_seq (CallR.or call_len_str call_lenD)) cLenU (by rfl) Fx.z_len rfl (hvs_cons (hv_name (pv 1)) hvs_nil)) (hg_name (pg_name (i := 2) sc__law_wrong_orders.nd rfl (by first | exact .inl rfl | exact .inr rfl))))
      (hss_cons (hs_asg (ss := [3]) (he_lst (ha_cons (he_add (hv_name (pv 1)) (hv_of (he_tup (ha_cons (he_add (hv_name (pv 2)) (hv_of he_int)) ha_nil)))) (ha_cons (he_add (hv_name (pv 1)) (hv_of (he_tup (ha_cons (he_un un_neg uNeg (hv_of he_int)) ha_nil)))) ha_nil))) (hg_name (pg_name (i := 3) sc__law_wrong_orders.nd rfl (by first | exact .inl rfl | exact .inr rfl))))
      (hss_cons (hs_if (ht_cmp (f := fGt) op_gt bGt (hv_name (pv 2)) (hv_of he_int) (nomark _)) (hss_cons (hs_asg (ss := [4]) (he_fn (ok__law_take Fx) (hr.mono (by first | decide | omega)) (takes_of rfl rfl rfl rfl) (by rfl) Fx.g__law_take Fx.F__law_take.kp (kb__law_take_2_ Fx) (hc_cons (ga_name (pv 0)) (hc_cons (ga_name (pv 2)) hc_nil))) (hg_name (pg_name (i := 4) sc__law_wrong_orders.nd rfl (by first | exact .inl rfl | exact .inr rfl))))
      (hss_cons (hs_expr (he_mut (id := "list.append") mAppend (pe_bm PySem.F.plainAttrs_list PySem.F.slot_list_append PySem.F.type_list_append mt_append (pv 3) (ha_cons (he_add (hv_name (pv 1)) (hv_of (he_tup (ha_cons (he_sbs (hu_of hr) (hv_name (pv 1)) (hv_name (pv 4)) (fun _ _ => rfl)) ha_nil)))) ha_nil))))
      (hss_one (hs_expr (he_mut (id := "list.append") mAppend (pe_bm PySem.F.plainAttrs_list PySem.F.slot_list_append PySem.F.type_list_append mt_append (pv 3) (ha_cons (he_add (hv_of (he_add (hv_of (he_sl (hv_name (pv 1)) ho_none (ho_some (hv_name (pv 4))))) (hv_of (he_tup (ha_cons (he_sbs (hu_of hr) (hv_of (he_lst (ha_cons (he_var (pv 2)) (ha_cons (he_un un_neg uNeg (hv_of he_int)) (ha_cons (he_sub (hv_of (he_sbs (hu_of hr) (hv_name (pv 1)) (hv_name (pv 4)) (fun _ _ => rfl))) (hv_name (pv 2))) (ha_cons (he_pow (hv_of he_int) (hv_of he_int)) ha_nil)))))) (hv_of (he_fn (ok__law_take Fx) (hr.mono (by first | decide | omega)) (takes_of rfl rfl rfl rfl) (by rfl) Fx.g__law_take Fx.F__law_take.kp (kb__law_take_2_ Fx) (hc_cons (ga_name (pv 0)) (hc_cons (ga_val he_int) hc_nil)))) (fun _ _ => rfl)) ha_nil))))) (hv_of (he_sl (hv_name (pv 1)) (ho_some (hv_of (he_add (hv_name (pv 4)) (hv_of he_int)))) ho_none))) ha_nil))))))) hss_nil)
      (hss_cons (hs_if (ht_cmp (f := fGt) op_gt bGt (hv_name (pv 2)) (hv_of he_int) (nomark _)) (hss_cons (hs_asg (ss := [4]) (he_fn (ok__law_take Fx) (hr.mono (by first | decide | omega)) (takes_of rfl rfl rfl rfl) (by rfl) Fx.g__law_take Fx.F__law_take.kp (kb__law_take_2_ Fx) (hc_cons (ga_name (pv 0)) (hc_cons (ga_name (pv 2)) hc_nil))) (hg_name (pg_name (i := 4) sc__law_wrong_orders.nd rfl (by first | exact .inl rfl | exact .inr rfl))))
      (hss_one (hs_expr (he_mut (id := "list.append") mAppend (pe_bm PySem.F.plainAttrs_list PySem.F.slot_list_append PySem.F.type_list_append mt_append (pv 3) (ha_cons (he_add (hv_of (he_add (hv_of (he_sl (hv_name (pv 1)) ho_none (ho_some (hv_name (pv 4))))) (hv_of (he_tup (ha_cons (he_sbs (hu_of hr) (hv_name (pv 1)) (hv_of (he_sub (hv_name (pv 4)) (hv_of he_int))) (fun _ _ => rfl)) ha_nil))))) (hv_of (he_sl (hv_name (pv 1)) (ho_some (hv_of (he_add (hv_name (pv 4)) (hv_of he_int)))) ho_none))) ha_nil)))))) hss_nil)
      (hss_cons (hs_if (ht_cmp (f := fGt) op_gt bGt (hv_name (pv 2)) (hv_of he_int) (nomark _)) (hss_cons (hs_asg (ss := [5]) (he_add (hv_of he_int) (hv_of (he_fn (ok__law_take Fx) (hr.mono (by first | decide | omega)) (takes_of rfl rfl rfl rfl) (by rfl) Fx.g__law_take Fx.F__law_take.kp (kb__law_take_2_ Fx) (hc_cons (ga_name (pv 0)) (hc_cons (ga_val (he_sub (hv_name (pv 2)) (hv_of he_int))) hc_nil))))) (hg_name (pg_name (i := 5) sc__law_wrong_orders.nd rfl (by first | exact .inl rfl | exact .inr rfl))))
      (hss_one (hs_expr (he_mut (id := "list.append") mAppend (pe_bm PySem.F.plainAttrs_list PySem.F.slot_list_append PySem.F.type_list_append mt_append (pv 3) (ha_cons (he_callTy (f := (on1 fTuple)) call_tupleN cTuple (by rfl) Fx.z_tuple rfl (hvs_cons (hv_of (he_lc (own := [("place", 6)]) (di := (iAny (dVar 1))) (t := (tName 6)) (dc := dYes) (de := (dBin fIx (vT (dLst (aCons (dVar 6) (aCons (dVar 5) aNil)))) (vT (dCall (on1 fInt) (vCons (vT (dBin fInU (vS 6) (vT (dLst (aCons (dBin fSub (vS 5) (vT (dC (.int 1)))) (aCons (dBin fAdd (vS 5) (vT (dC (.int 1)))) aNil)))))) vNil))))) (pe_lc rfl sc__law_wrong_orders.nd (hi_any (he_var (pv 1))) (blkOk_by (own := [("place", 6)]) (N := sN__law_wrong_orders) (sc := defScope s__law_wrong_orders) (by decide +kernel)) (fun _ _ _ _ _ => (hg_name (pg_name (i := 6) sc__law_wrong_orders.nd rfl (by first | exact .inl rfl | exact .inr rfl)))) (fun _ _ _ _ _ => hts_nil) (fun _ _ _ _ _ => (he_sbs (hu_of hr) (hv_of (he_lst (ha_cons (he_var (pv 6)) (ha_cons (he_var (pv 5)) ha_nil)))) (hv_of (he_callTy (f := (on1 fInt)) call_int1 cInt (by rfl) Fx.z_int rfl (hvs_cons (hv_of (he_cmp (f := fInU) (OpR.or op_in_seq (op_in_dk (hu_of hr))) (BinOk.or bIn bDin) (hv_name (pv 6)) (hv_of (he_lst (ha_cons (he_sub (hv_name (pv 5)) (hv_of he_int)) (ha_cons (he_add (hv_name (pv 5)) (hv_of he_int)) ha_nil)))) (by rfl))) hvs_nil))) (fun _ _ => rfl)))))) hvs_nil)) ha_nil)))))) hss_nil)
      (hss_one (hs_ret (he_move (pv 3))))))))))
def b_law : En → Out :=
  (sSeq (sAsg (dCallF d__law_pool [0] (cCons (gName 0) cNil)) (tName 1))
  (sSeq (sAsg (dBin fIx (vT (dLst (aCons (dCallF d__law_take [0, 1] (cCons (gName 1) (cCons (gVal (dC (.int 9))) cNil))) (aCons (dCallF d__law_take [0, 1] (cCons (gName 1) (cCons (gVal (dC (.int 9))) cNil))) (aCons (dCallF d__law_take [0, 1] (cCons (gName 1) (cCons (gVal (dC (.int 13))) cNil))) aNil))))) (vT (dCallF d__law_take [0, 1] (cCons (gName 1) (cCons (gVal (dC (.int 3))) cNil))))) (tName 2))
  (sSeq (sAsg (dLc (iOps (vCons (vS 2) vNil) gR1) [10] (tName 10) dYes (dCall (on1 fTuple) (vCons (vT (dLc (iAny (dCallF d__law_switches [0] (cCons (gName 2) cNil))) [12] (tName 12) (dTst (dBin fEq (vT (dBin fIx (vS 12) (vT (dC (.int 0))))) (vS 10))) (dBin fIx (vS 12) (vT (dC (.int 1)))))) vNil))) (tName 3))
  (sSeq (sIf (dNotT (dTst (dCallF (d__law_same 8) [0, 1] (cCons (gVal (dCallF d_switch_places [0] (cCons (gName 2) cNil))) (cCons (gVal (dCall (on1 fTuple) (vCons (vS 3) vNil))) cNil))))) (sRet (dC (.bl false))) sNext)
  (sSeq (sAsg (dCall (on1 fTuple) (vCons (vT (dLc (iAny (dCallF d__law_switches [0] (cCons (gName 2) cNil))) [11] (tName 11) dYes (dCallF d__law_take [0, 1] (cCons (gName 1) (cCons (gVal (dC (.int 2))) cNil))))) vNil)) (tName 4))
  (sSeq (sFor (iAny (dLst (aCons (dCallF d_source_places [0, 1] (cCons (gName 2) (cCons (gName 4) cNil))) (aCons (dCallF d_source_places [0, 1] (cCons (gName 2) (cCons (gName 4) cNil))) aNil)))) (tName 5) (sIf (dNotT (dTst (dCallF (d__law_same 8) [0, 1] (cCons (gName 5) (cCons (gVal (dCallF d__law_sources [0, 1] (cCons (gName 2) (cCons (gName 4) cNil)))) cNil))))) (sRet (dC (.bl false))) sNext))
  (sSeq (sIf (dNotT (dTst (dCallF (d__law_same 8) [0, 1] (cCons (gVal (dCallF d_switch_places [0] (cCons (gName 2) cNil))) (cCons (gVal (dCall (on1 fTuple) (vCons (vS 3) vNil))) cNil))))) (sRet (dC (.bl false))) sNext)
  (sSeq (sFor (iAny (dCallF d__law_wrong_settings [0, 1, 2] (cCons (gName 1) (cCons (gName 2) (cCons (gName 4) cNil))))) (tName 6) (sIf (dNotT (dTst (dCallF d__law_refused [0, 1, 2] (cCons (gName 2) (cCons (gName 6) (cCons (gVal (dC (.int 0))) cNil)))))) (sRet (dC (.bl false))) sNext))
  (sSeq (sFor (iAny (dLst (aCons (dCallF d__law_take [0, 1] (cCons (gName 1) (cCons (gVal (dC (.int 7))) cNil))) (aCons (dCallF d__law_take [0, 1] (cCons (gName 1) (cCons (gVal (dC (.int 13))) cNil))) aNil)))) (tName 7) (sSeq (sAsg (dLRg (rg1 (vS 7))) (tName 8))
  (sSeq (sAsg (dCall (on1 fTuple) (vCons (vT (dLc (iOps (vCons (vS 7) vNil) gR1) [13] (tName 13) dYes (dMut 8 fPopAt (aCons (dCallF d__law_take [0, 1] (cCons (gName 1) (cCons (gVal (dCall fLenU (vCons (vS 8) vNil))) cNil))) aNil)))) vNil)) (tName 9))
  (sSeq (sAsg (dCallF d_settings_for [0] (cCons (gName 9) cNil)) (tName 5))
  (sSeq (sIf (dOrT (dNotT (dTst (dCallF (d__law_same 8) [0, 1] (cCons (gName 5) (cCons (gVal (dCallF d__law_goals [0] (cCons (gName 9) cNil))) cNil))))) (dNotT (dTst (dCallF (d__law_same 8) [0, 1] (cCons (gVal (dCallF d_source_places [0, 1] (cCons (gName 7) (cCons (gName 5) cNil)))) (cCons (gName 9) cNil)))))) (sRet (dC (.bl false))) sNext)
  (sSeq (sIf (dNotT (dTst (dCallF (d__law_same 8) [0, 1] (cCons (gVal (dCallF d_settings_for [0] (cCons (gName 9) cNil))) (cCons (gName 5) cNil))))) (sRet (dC (.bl false))) sNext)
  (sSeq (sIf (dTst (dBin fNe (vT (dCallF d__law_sources [0, 1] (cCons (gName 7) (cCons (gName 5) cNil)))) (vS 9))) (sRet (dC (.bl false))) sNext)
  (sFor (iAny (dCallF d__law_wrong_orders [0, 1] (cCons (gName 1) (cCons (gName 9) cNil)))) (tName 6) (sIf (dNotT (dTst (dCallF d__law_refused [0, 1, 2] (cCons (gName 7) (cCons (gName 6) (cCons (gVal (dC (.int 1))) cNil)))))) (sRet (dC (.bl false))) sNext)))))))))
  (sRet (dC (.bl true))))))))))))
def d_law : Den := denFn [true] 14 b_law
theorem ok_law : FnOk P w K mg base (L2.CX P w) 9 Fx.a_law Fx.fd_law ["script"] (spD ⟨K, Fx.cl.f, none⟩ 1 d_law) := by
  refine fn_ok (cl := Fx.cl) (k := 8) rfl Fx.F_law sc_law rfl (by decide) fun cdv A outer s H E hr => ?_
  exact (show HSs _ _ _ _ b_law from (hss_cons (hs_asg (ss := [1]) (he_fn (ok__law_pool Fx) (hr.mono (by first | decide | omega)) (takes_of rfl rfl rfl rfl) (by rfl) Fx.g__law_pool Fx.F__law_pool.kp (kb__law_pool_1_ Fx) (hc_cons (ga_name (pv 0)) hc_nil)) (hg_name (pg_name (i := 1) sc_law.nd rfl (by first | exact .inl rfl | exact .inr rfl))))
      (hss_cons (hs_asg (ss := [2]) (he_sbs (hu_of hr) (hv_of (he_lst (ha_cons (he_fn (ok__law_take Fx) (hr.mono (by first | decide | omega)) (takes_of rfl rfl rfl rfl) (by rfl) Fx.g__law_take Fx.F__law_take.kp (kb__law_take_2_ Fx) (hc_cons (ga_name (pv 1)) (hc_cons (ga_val he_int) hc_nil))) (ha_cons (he_fn (ok__law_take Fx) (hr.mono (by first | decide | omega)) (takes_of rfl rfl rfl rfl) (by rfl) Fx.g__law_take Fx.F__law_take.kp (kb__law_take_2_ Fx) (hc_cons (ga_name (pv 1)) (hc_cons (ga_val he_int) hc_nil))) (ha_cons (he_fn (ok__law_take Fx) (hr.mono (by first | decide | omega)) (takes_of rfl rfl rfl rfl) (by rfl) Fx.g__law_take Fx.F__law_take.kp (kb__law_take_2_ Fx) (hc_cons (ga_name (pv 1)) (hc_cons (ga_val he_int) hc_nil))) ha_nil))))) (hv_of (he_fn (ok__law_take Fx) (hr.mono (by first | decide | omega)) (takes_of rfl rfl rfl rfl) (by rfl) Fx.g__law_take Fx.F__law_take.kp (kb__law_take_2_ Fx) (hc_cons (ga_name (pv 1)) (hc_cons (ga_val he_int) hc_nil)))) (fun _ _ => rfl)) (hg_name (pg_name (i := 2) sc_law.nd rfl (by first | exact .inl rfl | exact .inr rfl))))
      (hss_cons (hs_setLc (own := [("layer", 10)]) (di := (iOps (vCons (vS 2) vNil) gR1)) (t := (tName 10)) (dc := dYes) (de := (dCall (on1 fTuple) (vCons (vT (dLc (iAny (dCallF d__law_switches [0] (cCons (gName 2) cNil))) [12] (tName 12) (dTst (dBin fEq (vT (dBin fIx (vS 12) (vT (dC (.int 0))))) (vS 10))) (dBin fIx (vS 12) (vT (dC (.int 1)))))) vNil))) (ps_setLc (i := 3) rfl sc_law.nd rfl rfl (sw_true rfl rfl rfl (by decide +kernel)) (hi_range1 (by rfl) Fx.z_range (hvs_cons (hv_name (pv 2)) hvs_nil)) (blkOk_by (own := [("layer", 10)]) (N := sN_law) (sc := defScope s_law) (by decide +kernel)) (fun _ _ _ _ _ => (hg_name (pg_name (i := 10) sc_law.nd rfl (by first | exact .inl rfl | exact .inr rfl)))) (fun _ _ _ _ _ => hts_nil) (fun _ _ _ _ _ => (he_callTy (f := (on1 fTuple)) call_tupleN cTuple (by rfl) Fx.z_tuple rfl (hvs_cons (hv_of (he_lc (own := [("pair", 12)]) (di := (iAny (dCallF d__law_switches [0] (cCons (gName 2) cNil)))) (t := (tName 12)) (dc := (dTst (dBin fEq (vT (dBin fIx (vS 12) (vT (dC (.int 0))))) (vS 10)))) (de := (dBin fIx (vS 12) (vT (dC (.int 1))))) (pe_lc rfl sc_law.nd (hi_any (he_fn (ok__law_switches Fx) (hr.mono (by first | decide | omega)) takes0 (by rfl) Fx.g__law_switches Fx.F__law_switches.kp (kb__law_switches_1_ Fx) (hc_cons (ga_name (pv 2)) hc_nil))) (blkOk_by (own := [("pair", 12)]) (by kernel_rfl)) (fun _ _ _ _ _ => (hg_name (pg_name (i := 12) sc_law.nd rfl (by first | exact .inl rfl | exact .inr rfl)))) (fun _ _ _ _ _ => (hts_one (ht_cmp (f := fEq) (OpR.or op_eq (op_eqD hr.units)) bEq (hv_of (he_sbs (hu_of hr) (hv_name (pv 12)) (hv_of he_int) (fun _ _ => rfl))) (hv_name (pv 10)) (nomark _)))) (fun _ _ _ _ _ => (he_sbs (hu_of hr) (hv_name (pv 12)) (hv_of he_int) (fun _ _ => rfl)))))) hvs_nil)))))
      (hss_cons (hs_if (ht_not (ht_val (he_fn (ok__law_same Fx 8) (hr.mono (by first | decide | omega)) (takes_of rfl rfl rfl rfl) (by rfl) Fx.g__law_same Fx.F__law_same.kp (kb__law_same_2_ Fx) (hc_cons (ga_val (he_fnK0 (ok_switch_places Fx) (hr.mono (by first | decide | omega)) (takes_of rfl rfl rfl rfl) (by rfl) Fx.g_switch_places Fx.F_switch_places.kp (kb_switch_places_0_many Fx) (hck_cons (ga_name (pv 2)) hck_nil))) (hc_cons (ga_val (he_callTy (f := (on1 fTuple)) call_tupleN cTuple (by rfl) Fx.z_tuple rfl (hvs_cons (hv_name (pv 3)) hvs_nil))) hc_nil))))) (hss_one (hs_ret he_bl)) hss_nil)
      (hss_cons (hs_asg (ss := [4]) (he_callTy (f := (on1 fTuple)) call_tupleN cTuple (by rfl) Fx.z_tuple rfl (hvs_cons (hv_of (he_lc (own := [("switch", 11)]) (di := (iAny (dCallF d__law_switches [0] (cCons (gName 2) cNil)))) (t := (tName 11)) (dc := dYes) (de := (dCallF d__law_take [0, 1] (cCons (gName 1) (cCons (gVal (dC (.int 2))) cNil)))) (pe_lc rfl sc_law.nd (hi_any (he_fn (ok__law_switches Fx) (hr.mono (by first | decide | omega)) (takes_of rfl rfl rfl rfl) (by rfl) Fx.g__law_switches Fx.F__law_switches.kp (kb__law_switches_1_ Fx) (hc_cons (ga_name (pv 2)) hc_nil))) (blkOk_by (own := [("switch", 11)]) (N := sN_law) (sc := defScope s_law) (by decide +kernel)) (fun _ _ _ _ _ => (hg_name (pg_name (i := 11) sc_law.nd rfl (by first | exact .inl rfl | exact .inr rfl)))) (fun _ _ _ _ _ => hts_nil) (fun _ _ _ _ _ => (he_fn (ok__law_take Fx) (hr.mono (by first | decide | omega)) takes0 (by rfl) Fx.g__law_take Fx.F__law_take.kp (kb__law_take_2_ Fx) (hc_cons (ga_name (pv 1)) (hc_cons (ga_val he_int) hc_nil))))))) hvs_nil)) (hg_name (pg_name (i := 4) sc_law.nd rfl (by first | exact .inl rfl | exact .inr rfl))))
      (hss_cons (hs_for (ss := [5]) (passes_of rfl) rfl (hi_any (he_lst (ha_cons (he_fnK0 (ok_source_places Fx) (hr.mono (by first | decide | omega)) (takes_of rfl rfl rfl rfl) (by rfl) Fx.g_source_places Fx.F_source_places.kp (kb_source_places_0_many_settings Fx) (hck_cons (ga_name (pv 2)) (hck_cons (ga_name (pv 4)) hck_nil))) (ha_cons (he_fn (ok_source_places Fx) (hr.mono (by first | decide | omega)) (takes_of rfl rfl rfl rfl) (by rfl) Fx.g_source_places Fx.F_source_places.kp (kb_source_places_2_ Fx) (hc_cons (ga_name (pv 2)) (hc_cons (ga_name (pv 4)) hc_nil))) ha_nil)))) (hg_name (pg_name (i := 5) sc_law.nd rfl (by first | exact .inl rfl | exact .inr rfl))) (hss_one (hs_if (ht_not (ht_val (he_fn (ok__law_same Fx 8) (hr.mono (by first | decide | omega)) (takes_of rfl rfl rfl rfl) (by rfl) Fx.g__law_same Fx.F__law_same.kp (kb__law_same_2_ Fx) (hc_cons (ga_name (pv 5)) (hc_cons (ga_val (he_fn (ok__law_sources Fx) (hr.mono (by first | decide | omega)) (takes_of rfl rfl rfl rfl) (by rfl) Fx.g__law_sources Fx.F__law_sources.kp (kb__law_sources_2_ Fx) (hc_cons (ga_name (pv 2)) (hc_cons (ga_name (pv 4)) hc_nil)))) hc_nil))))) (hss_one (hs_ret he_bl)) hss_nil)))
      (hss_cons (hs_if (ht_not (ht_val (he_fn (ok__law_same Fx 8) (hr.mono (by first | decide | omega)) (takes_of rfl rfl rfl rfl) (by rfl) Fx.g__law_same Fx.F__law_same.kp (kb__law_same_2_ Fx) (hc_cons (ga_val (he_fn (ok_switch_places Fx) (hr.mono (by first | decide | omega)) (takes_of rfl rfl rfl rfl) (by rfl) Fx.g_switch_places Fx.F_switch_places.kp (kb_switch_places_1_ Fx) (hc_cons (ga_name (pv 2)) hc_nil))) (hc_cons (ga_val (he_callTy (f := (on1 fTuple)) call_tupleN cTuple (by rfl) Fx.z_tuple rfl (hvs_cons (hv_name (pv 3)) hvs_nil))) hc_nil))))) (hss_one (hs_ret he_bl)) hss_nil)
      (hss_cons (hs_for (ss := [6]) (passes_of rfl) rfl (hi_any (he_fn (ok__law_wrong_settings Fx) (hr.mono (by first | decide | omega)) (takes_of rfl rfl rfl rfl) (by rfl) Fx.g__law_wrong_settings Fx.F__law_wrong_settings.kp (kb__law_wrong_settings_3_ Fx) (hc_cons (ga_name (pv 1)) (hc_cons (ga_name (pv 2)) (hc_cons (ga_name (pv 4)) hc_nil))))) (hg_name (pg_name (i := 6) sc_law.nd rfl (by first | exact .inl rfl | exact .inr rfl))) (hss_one (hs_if (ht_not (ht_val (he_fn (ok__law_refused Fx) (hr.mono (by first | decide | omega)) (takes_of rfl rfl rfl rfl) (by rfl) Fx.g__law_refused Fx.F__law_refused.kp (kb__law_refused_3_ Fx) (hc_cons (ga_name (pv 2)) (hc_cons (ga_name (pv 6)) (hc_cons (ga_val he_int) hc_nil)))))) (hss_one (hs_ret he_bl)) hss_nil)))
      (hss_cons (hs_for (ss := [7]) (passes_of rfl) rfl (hi_any (he_lst (ha_cons (he_fn (ok__law_take Fx) (hr.mono (by first | decide | omega)) (takes_of rfl rfl rfl rfl) (by rfl) Fx.g__law_take Fx.F__law_take.kp (kb__law_take_2_ Fx) (hc_cons (ga_name (pv 1)) (hc_cons (ga_val he_int) hc_nil))) (ha_cons (he_fn (ok__law_take Fx) (hr.mono (by first | decide | omega)) (takes_of rfl rfl rfl rfl) (by rfl) Fx.g__law_take Fx.F__law_take.kp (kb__law_take_2_ Fx) (hc_cons (ga_name (pv 1)) (hc_cons (ga_val he_int) hc_nil))) ha_nil)))) (hg_name (pg_name (i := 7) sc_law.nd rfl (by first | exact .inl rfl | exact .inr rfl))) (hss_cons (hs_asg (ss := [8]) (he_listRg rfl (by rfl) Fx.z_list (hrg_1 (by rfl) Fx.z_range (hv_name (pv 7)))) (hg_name (pg_name (i := 8) sc_law.nd rfl (by first | exact .inl rfl | exact .inr rfl))))
      (hss_cons (hs_asg (ss := [9]) (he_callTy (f := (on1 fTuple)) call_tupleN cTuple (by rfl) Fx.z_tuple rfl (hvs_cons (hv_of (he_lc (own := [("k", 13)]) (di := (iOps (vCons (vS 7) vNil) gR1)) (t := (tName 13)) (dc := dYes) (de := (dMut 8 fPopAt (aCons (dCallF d__law_take [0, 1] (cCons (gName 1) (cCons (gVal (dCall fLenU (vCons (vS 8) vNil))) cNil))) aNil))) (pe_lc rfl sc_law.nd (hi_range1 (by rfl) Fx.z_range (hvs_cons (hv_name (pv 7)) hvs_nil)) (blkOk_by (own := [("k", 13)]) (N := sN_law) (sc := defScope s_law) (by decide +kernel)) (fun _ _ _ _ _ => (hg_name (pg_name (i := 13) sc_law.nd rfl (by first | exact .inl rfl | exact .inr rfl)))) (fun _ _ _ _ _ => hts_nil) (fun _ _ _ _ _ => (he_mut (id := "list.pop") mPopAt (pe_bm PySem.F.plainAttrs_list PySem.F.slot_list_pop PySem.F.type_list_pop mt_popAt (pv 8) (ha_cons (he_fn (ok__law_take Fx) (hr.mono (by first | decide | omega)) takes0 (by rfl) Fx.g__law_take Fx.F__law_take.kp (kb__law_take_2_ Fx) (hc_cons (ga_name (pv 1)) (hc_cons (ga_val (he_callB (f := fLenU) (CallR.or call_len_seq (CallR.or call_len_str call_lenD)) cLenU (by rfl) Fx.z_len rfl (hvs_cons (hv_name (pv 8)) hvs_nil))) hc_nil))) ha_nil))))))) hvs_nil)) (hg_name (pg_name (i := 9) sc_law.nd rfl (by first | exact .inl rfl | exact .inr rfl))))
      (hss_cons (hs_asg (ss := [5]) (he_fnK0 (ok_settings_for Fx) (hr.mono (by first | decide | omega)) (takes_of rfl rfl rfl rfl) (by rfl) Fx.g_settings_for Fx.F_settings_for.kp (kb_settings_for_0_places Fx) (hck_cons (ga_name (pv 9)) hck_nil)) (hg_name (pg_name (i := 5) sc_law.nd rfl (by first | exact .inl rfl | exact .inr rfl))))
      (hss_cons (hs_if (ht_w (hw_or (ht_not (ht_val (he_fn (ok__law_same Fx 8) (hr.mono (by first | decide | omega)) (takes_of rfl rfl rfl rfl) (by rfl) Fx.g__law_same Fx.F__law_same.kp (kb__law_same_2_ Fx) (hc_cons (ga_name (pv 5)) (hc_cons (ga_val (he_fn (ok__law_goals Fx) (hr.mono (by first | decide | omega)) (takes_of rfl rfl rfl rfl) (by rfl) Fx.g__law_goals Fx.F__law_goals.kp (kb__law_goals_1_ Fx) (hc_cons (ga_name (pv 9)) hc_nil))) hc_nil))))) (hw_or1 (ht_not (ht_val (he_fn (ok__law_same Fx 8) (hr.mono (by first | decide | omega)) (takes_of rfl rfl rfl rfl) (by rfl) Fx.g__law_same Fx.F__law_same.kp (kb__law_same_2_ Fx) (hc_cons (ga_val (he_fn (ok_source_places Fx) (hr.mono (by first | decide | omega)) (takes_of rfl rfl rfl rfl) (by rfl) Fx.g_source_places Fx.F_source_places.kp (kb_source_places_2_ Fx) (hc_cons (ga_name (pv 7)) (hc_cons (ga_name (pv 5)) hc_nil)))) (hc_cons (ga_name (pv 9)) hc_nil)))))))) (hss_one (hs_ret he_bl)) hss_nil)
      (hss_cons (hs_if (ht_not (ht_val (he_fn (ok__law_same Fx 8) (hr.mono (by first | decide | omega)) (takes_of rfl rfl rfl rfl) (by rfl) Fx.g__law_same Fx.F__law_same.kp (kb__law_same_2_ Fx) (hc_cons (ga_val (he_fn (ok_settings_for Fx) (hr.mono (by first | decide | omega)) (takes_of rfl rfl rfl rfl) (by rfl) Fx.g_settings_for Fx.F_settings_for.kp (kb_settings_for_1_ Fx) (hc_cons (ga_name (pv 9)) hc_nil))) (hc_cons (ga_name (pv 5)) hc_nil))))) (hss_one (hs_ret he_bl)) hss_nil)
      (hss_cons (hs_if (ht_cmp (f := fNe) (OpR.or op_ne (op_neD hr.units)) bNe (hv_of (he_fn (ok__law_sources Fx) (hr.mono (by first | decide | omega)) (takes_of rfl rfl rfl rfl) (by rfl) Fx.g__law_sources Fx.F__law_sources.kp (kb__law_sources_2_ Fx) (hc_cons (ga_name (pv 7)) (hc_cons (ga_name (pv 5)) hc_nil)))) (hv_name (pv 9)) (nomark _)) (hss_one (hs_ret he_bl)) hss_nil)
      (hss_one (hs_for (ss := [6]) (passes_of rfl) rfl (hi_any (he_fn (ok__law_wrong_orders Fx) (hr.mono (by first | decide | omega)) (takes_of rfl rfl rfl rfl) (by rfl) Fx.g__law_wrong_orders Fx.F__law_wrong_orders.kp (kb__law_wrong_orders_2_ Fx) (hc_cons (ga_name (pv 1)) (hc_cons (ga_name (pv 9)) hc_nil)))) (hg_name (pg_name (i := 6) sc_law.nd rfl (by first | exact .inl rfl | exact .inr rfl))) (hss_one (hs_if (ht_not (ht_val (he_fn (ok__law_refused Fx) (hr.mono (by first | decide | omega)) (takes_of rfl rfl rfl rfl) (by rfl) Fx.g__law_refused Fx.F__law_refused.kp (kb__law_refused_3_ Fx) (hc_cons (ga_name (pv 7)) (hc_cons (ga_name (pv 6)) (hc_cons (ga_val he_int) hc_nil)))))) (hss_one (hs_ret he_bl)) hss_nil)))))))))))
      (hss_one (hs_ret he_bl))))))))))))
end
end K73

namespace K73
open PySem L2 MX
/-- what the top has written -/
theorem all_mk {l : PySem.W.OpenLaw} {w : World} {K : PySem.W.Frag} {h : Heap} {mg : Str → Option Value} {fa : Addr} (X : K.In h) (G : h.Ns mainGlobals mg) (hfa : mg "law" = some (.ref fa))
    {od0 an0 : Option Addr} {sl0 : Array (Option Value)} {oc0 kV0 dc0 pm0 cd0 ct0 : Value} {f0 : Addr}
    {od1 an1 : Option Addr} {sl1 : Array (Option Value)} {oc1 kV1 dc1 pm1 cd1 ct1 : Value} {f1 : Addr}
    {od2 an2 : Option Addr} {sl2 : Array (Option Value)} {oc2 kV2 dc2 pm2 cd2 ct2 : Value} {f2 : Addr}
    {od3 an3 : Option Addr} {sl3 : Array (Option Value)} {oc3 kV3 dc3 pm3 cd3 ct3 : Value} {f3 : Addr}
    {od4 an4 : Option Addr} {sl4 : Array (Option Value)} {oc4 kV4 dc4 pm4 cd4 ct4 : Value} {f4 : Addr}
    {od5 an5 : Option Addr} {sl5 : Array (Option Value)} {oc5 kV5 dc5 pm5 cd5 ct5 : Value} {f5 : Addr}
    {od6 an6 : Option Addr} {sl6 : Array (Option Value)} {oc6 kV6 dc6 pm6 cd6 ct6 : Value} {f6 : Addr}
    {od7 an7 : Option Addr} {sl7 : Array (Option Value)} {oc7 kV7 dc7 pm7 cd7 ct7 : Value} {f7 : Addr}
    {od8 an8 : Option Addr} {sl8 : Array (Option Value)} {oc8 kV8 dc8 pm8 cd8 ct8 : Value} {f8 : Addr}
    {od9 an9 : Option Addr} {sl9 : Array (Option Value)} {oc9 kV9 dc9 pm9 cd9 ct9 : Value} {f9 : Addr}
    {od10 an10 : Option Addr} {sl10 : Array (Option Value)} {oc10 kV10 dc10 pm10 cd10 ct10 : Value} {f10 : Addr}
    {od11 an11 : Option Addr} {sl11 : Array (Option Value)} {oc11 kV11 dc11 pm11 cd11 ct11 : Value} {f11 : Addr}
    {od12 an12 : Option Addr} {sl12 : Array (Option Value)} {oc12 kV12 dc12 pm12 cd12 ct12 : Value} {f12 : Addr}
    {od13 an13 : Option Addr} {sl13 : Array (Option Value)} {oc13 kV13 dc13 pm13 cd13 ct13 : Value} {f13 : Addr}
    {od14 an14 : Option Addr} {sl14 : Array (Option Value)} {oc14 kV14 dc14 pm14 cd14 ct14 : Value} {f14 : Addr}
    {od15 an15 : Option Addr} {sl15 : Array (Option Value)} {oc15 kV15 dc15 pm15 cd15 ct15 : Value} {f15 : Addr}
    {C_HushError : Addr}
    {C_BadStatement : Addr}
    {C_BadTape : Addr}
    (a0 : PySem.W.nsIn K mainGlobals "switch_places" = some (some (.ref f0)))
    (l0 : K.lookup f0 = some ⟨oc0, od0, .func (PySem.W.fnOf "switch_places" "switch_places" (defArgs s_switch_places) (defBody s_switch_places) (defScope s_switch_places) .none kV0 dc0 pm0 an0 cd0 ct0), sl0⟩)
    (c0 : PySem.W.codeIn K cd0 "switch_places" = true)
    (k0 : PySem.W.keepIn K (.ref f0) = true)
    (a1 : PySem.W.nsIn K mainGlobals "_switches" = some (some (.ref f1)))
    (l1 : K.lookup f1 = some ⟨oc1, od1, .func (PySem.W.fnOf "_switches" "_switches" (defArgs s__switches) (defBody s__switches) (defScope s__switches) .none kV1 dc1 pm1 an1 cd1 ct1), sl1⟩)
    (c1 : PySem.W.codeIn K cd1 "_switches" = true)
    (k1 : PySem.W.keepIn K (.ref f1) = true)
    (a2 : PySem.W.nsIn K mainGlobals "_check_settings" = some (some (.ref f2)))
    (l2 : K.lookup f2 = some ⟨oc2, od2, .func (PySem.W.fnOf "_check_settings" "_check_settings" (defArgs s__check_settings) (defBody s__check_settings) (defScope s__check_settings) .none kV2 dc2 pm2 an2 cd2 ct2), sl2⟩)
    (c2 : PySem.W.codeIn K cd2 "_check_settings" = true)
    (k2 : PySem.W.keepIn K (.ref f2) = true)
    (a3 : PySem.W.nsIn K mainGlobals "source_places" = some (some (.ref f3)))
    (l3 : K.lookup f3 = some ⟨oc3, od3, .func (PySem.W.fnOf "source_places" "source_places" (defArgs s_source_places) (defBody s_source_places) (defScope s_source_places) .none kV3 dc3 pm3 an3 cd3 ct3), sl3⟩)
    (c3 : PySem.W.codeIn K cd3 "source_places" = true)
    (k3 : PySem.W.keepIn K (.ref f3) = true)
    (a4 : PySem.W.nsIn K mainGlobals "settings_for" = some (some (.ref f4)))
    (l4 : K.lookup f4 = some ⟨oc4, od4, .func (PySem.W.fnOf "settings_for" "settings_for" (defArgs s_settings_for) (defBody s_settings_for) (defScope s_settings_for) .none kV4 dc4 pm4 an4 cd4 ct4), sl4⟩)
    (c4 : PySem.W.codeIn K cd4 "settings_for" = true)
    (k4 : PySem.W.keepIn K (.ref f4) = true)
    (a5 : PySem.W.nsIn K mainGlobals "_law_pool" = some (some (.ref f5)))
    (l5 : K.lookup f5 = some ⟨oc5, od5, .func (PySem.W.fnOf "_law_pool" "_law_pool" (defArgs s__law_pool) (defBody s__law_pool) (defScope s__law_pool) .none kV5 dc5 pm5 an5 cd5 ct5), sl5⟩)
    (c5 : PySem.W.codeIn K cd5 "_law_pool" = true)
    (k5 : PySem.W.keepIn K (.ref f5) = true)
    (a6 : PySem.W.nsIn K mainGlobals "_law_mixed" = some (some (.ref f6)))
    (l6 : K.lookup f6 = some ⟨oc6, od6, .func (PySem.W.fnOf "_law_mixed" "_law_mixed" (defArgs s__law_mixed) (defBody s__law_mixed) (defScope s__law_mixed) .none kV6 dc6 pm6 an6 cd6 ct6), sl6⟩)
    (c6 : PySem.W.codeIn K cd6 "_law_mixed" = true)
    (k6 : PySem.W.keepIn K (.ref f6) = true)
    (a7 : PySem.W.nsIn K mainGlobals "_law_take" = some (some (.ref f7)))
    (l7 : K.lookup f7 = some ⟨oc7, od7, .func (PySem.W.fnOf "_law_take" "_law_take" (defArgs s__law_take) (defBody s__law_take) (defScope s__law_take) .none kV7 dc7 pm7 an7 cd7 ct7), sl7⟩)
    (c7 : PySem.W.codeIn K cd7 "_law_take" = true)
    (k7 : PySem.W.keepIn K (.ref f7) = true)
    (a8 : PySem.W.nsIn K mainGlobals "_law_same" = some (some (.ref f8)))
    (l8 : K.lookup f8 = some ⟨oc8, od8, .func (PySem.W.fnOf "_law_same" "_law_same" (defArgs s__law_same) (defBody s__law_same) (defScope s__law_same) .none kV8 dc8 pm8 an8 cd8 ct8), sl8⟩)
    (c8 : PySem.W.codeIn K cd8 "_law_same" = true)
    (k8 : PySem.W.keepIn K (.ref f8) = true)
    (a9 : PySem.W.nsIn K mainGlobals "_law_switches" = some (some (.ref f9)))
    (l9 : K.lookup f9 = some ⟨oc9, od9, .func (PySem.W.fnOf "_law_switches" "_law_switches" (defArgs s__law_switches) (defBody s__law_switches) (defScope s__law_switches) .none kV9 dc9 pm9 an9 cd9 ct9), sl9⟩)
    (c9 : PySem.W.codeIn K cd9 "_law_switches" = true)
    (k9 : PySem.W.keepIn K (.ref f9) = true)
    (a10 : PySem.W.nsIn K mainGlobals "_law_sources" = some (some (.ref f10)))
    (l10 : K.lookup f10 = some ⟨oc10, od10, .func (PySem.W.fnOf "_law_sources" "_law_sources" (defArgs s__law_sources) (defBody s__law_sources) (defScope s__law_sources) .none kV10 dc10 pm10 an10 cd10 ct10), sl10⟩)
    (c10 : PySem.W.codeIn K cd10 "_law_sources" = true)
    (k10 : PySem.W.keepIn K (.ref f10) = true)
    (a11 : PySem.W.nsIn K mainGlobals "_law_goals" = some (some (.ref f11)))
    (l11 : K.lookup f11 = some ⟨oc11, od11, .func (PySem.W.fnOf "_law_goals" "_law_goals" (defArgs s__law_goals) (defBody s__law_goals) (defScope s__law_goals) .none kV11 dc11 pm11 an11 cd11 ct11), sl11⟩)
    (c11 : PySem.W.codeIn K cd11 "_law_goals" = true)
    (k11 : PySem.W.keepIn K (.ref f11) = true)
    (a12 : PySem.W.nsIn K mainGlobals "_law_refused" = some (some (.ref f12)))
    (l12 : K.lookup f12 = some ⟨oc12, od12, .func (PySem.W.fnOf "_law_refused" "_law_refused" (defArgs s__law_refused) (defBody s__law_refused) (defScope s__law_refused) .none kV12 dc12 pm12 an12 cd12 ct12), sl12⟩)
    (c12 : PySem.W.codeIn K cd12 "_law_refused" = true)
    (k12 : PySem.W.keepIn K (.ref f12) = true)
    (a13 : PySem.W.nsIn K mainGlobals "_law_wrong_settings" = some (some (.ref f13)))
    (l13 : K.lookup f13 = some ⟨oc13, od13, .func (PySem.W.fnOf "_law_wrong_settings" "_law_wrong_settings" (defArgs s__law_wrong_settings) (defBody s__law_wrong_settings) (defScope s__law_wrong_settings) .none kV13 dc13 pm13 an13 cd13 ct13), sl13⟩)
    (c13 : PySem.W.codeIn K cd13 "_law_wrong_settings" = true)
    (k13 : PySem.W.keepIn K (.ref f13) = true)
    (a14 : PySem.W.nsIn K mainGlobals "_law_wrong_orders" = some (some (.ref f14)))
    (l14 : K.lookup f14 = some ⟨oc14, od14, .func (PySem.W.fnOf "_law_wrong_orders" "_law_wrong_orders" (defArgs s__law_wrong_orders) (defBody s__law_wrong_orders) (defScope s__law_wrong_orders) .none kV14 dc14 pm14 an14 cd14 ct14), sl14⟩)
    (c14 : PySem.W.codeIn K cd14 "_law_wrong_orders" = true)
    (k14 : PySem.W.keepIn K (.ref f14) = true)
    (a15 : PySem.W.nsIn K mainGlobals "law" = some (some (.ref f15)))
    (l15 : K.lookup f15 = some ⟨oc15, od15, .func (PySem.W.fnOf "law" "law" (defArgs s_law) (defBody s_law) (defScope s_law) .none kV15 dc15 pm15 an15 cd15 ct15), sl15⟩)
    (c15 : PySem.W.codeIn K cd15 "law" = true)
    (k15 : PySem.W.keepIn K (.ref f15) = true)
    (gc_HushError : PySem.W.nsIn K mainGlobals "HushError" = some (some (.ref C_HushError)))
    (k_HushError : PySem.W.keepIn K (.ref C_HushError) = true)
    (q_HushError : PySem.W.excIn K C_HushError [.type "ValueError", .type "Exception", .type "BaseException", .type "object"] "ValueError.__new__" = true)
    (b_HushError : PySem.W.subIn K (.ref C_HushError) (.type "BaseException") = some true)
    (t_HushError : PySem.W.typeIn K (.ref C_HushError) = some (.type "type"))
    (ehg_HushError : PySem.W.findIn K (.ref C_HushError) "__getattribute__" = some (some (.builtin "BaseException.__getattribute__")))
    (ehk_HushError : PySem.W.findIn K (.ref C_HushError) "__getattr__" = some none)
    (ehs_HushError : PySem.W.subIn K (.ref C_HushError) (.type "BaseException") = some true)
    (ehd_HushError : PySem.W.hasDictIn K C_HushError = true)
    (eha_HushError : PySem.W.findIn K (.ref C_HushError) "__class__" = some (some (.builtin "object.__class__")))
    (ehm_HushError : PySem.W.mroIn K C_HushError (.type "object") = some true)
    (gc_BadStatement : PySem.W.nsIn K mainGlobals "BadStatement" = some (some (.ref C_BadStatement)))
    (k_BadStatement : PySem.W.keepIn K (.ref C_BadStatement) = true)
    (q_BadStatement : PySem.W.excIn K C_BadStatement [.type "ValueError", .type "Exception", .type "BaseException", .type "object"] "ValueError.__new__" = true)
    (b_BadStatement : PySem.W.subIn K (.ref C_BadStatement) (.type "BaseException") = some true)
    (t_BadStatement : PySem.W.typeIn K (.ref C_BadStatement) = some (.type "type"))
    (ehg_BadStatement : PySem.W.findIn K (.ref C_BadStatement) "__getattribute__" = some (some (.builtin "BaseException.__getattribute__")))
    (ehk_BadStatement : PySem.W.findIn K (.ref C_BadStatement) "__getattr__" = some none)
    (ehs_BadStatement : PySem.W.subIn K (.ref C_BadStatement) (.type "BaseException") = some true)
    (ehd_BadStatement : PySem.W.hasDictIn K C_BadStatement = true)
    (eha_BadStatement : PySem.W.findIn K (.ref C_BadStatement) "__class__" = some (some (.builtin "object.__class__")))
    (ehm_BadStatement : PySem.W.mroIn K C_BadStatement (.type "object") = some true)
    (gc_BadTape : PySem.W.nsIn K mainGlobals "BadTape" = some (some (.ref C_BadTape)))
    (k_BadTape : PySem.W.keepIn K (.ref C_BadTape) = true)
    (q_BadTape : PySem.W.excIn K C_BadTape [.type "ValueError", .type "Exception", .type "BaseException", .type "object"] "ValueError.__new__" = true)
    (b_BadTape : PySem.W.subIn K (.ref C_BadTape) (.type "BaseException") = some true)
    (t_BadTape : PySem.W.typeIn K (.ref C_BadTape) = some (.type "type"))
    (ehg_BadTape : PySem.W.findIn K (.ref C_BadTape) "__getattribute__" = some (some (.builtin "BaseException.__getattribute__")))
    (ehk_BadTape : PySem.W.findIn K (.ref C_BadTape) "__getattr__" = some none)
    (ehs_BadTape : PySem.W.subIn K (.ref C_BadTape) (.type "BaseException") = some true)
    (ehd_BadTape : PySem.W.hasDictIn K C_BadTape = true)
    (eha_BadTape : PySem.W.findIn K (.ref C_BadTape) "__class__" = some (some (.builtin "object.__class__")))
    (ehm_BadTape : PySem.W.mroIn K C_BadTape (.type "object") = some true)
    (ehn : PySem.W.specialIn K (.builtin "object.__class__") "__get__" = some (some (.builtin "getset_descriptor.__get__")))
    (eht : PySem.W.takesIn K (.builtin "object.__class__") = some true)
    (i_HushError_BadStatement : PySem.W.kitOne K (.ref C_HushError) (.ref C_BadStatement) = some false)
    (i_BadStatement_BadStatement : PySem.W.kitOne K (.ref C_BadStatement) (.ref C_BadStatement) = some true)
    (i_BadTape_BadStatement : PySem.W.kitOne K (.ref C_BadTape) (.ref C_BadStatement) = some false)
    (i_HushError_BadTape : PySem.W.kitOne K (.ref C_HushError) (.ref C_BadTape) = some false)
    (i_BadStatement_BadTape : PySem.W.kitOne K (.ref C_BadStatement) (.ref C_BadTape) = some false)
    (i_BadTape_BadTape : PySem.W.kitOne K (.ref C_BadTape) (.ref C_BadTape) = some true)
    (x_HushError_HushError : PySem.W.exmOne K (.ref C_HushError) (.ref C_HushError) = some true)
    (x_BadStatement_HushError : PySem.W.exmOne K (.ref C_BadStatement) (.ref C_HushError) = some true)
    (x_BadTape_HushError : PySem.W.exmOne K (.ref C_BadTape) (.ref C_HushError) = some true)
    (z_bool : PySem.W.nsIn K mainGlobals "bool" = some none)
    (z_enumerate : PySem.W.nsIn K mainGlobals "enumerate" = some none)
    (z_int : PySem.W.nsIn K mainGlobals "int" = some none)
    (z_isinstance : PySem.W.nsIn K mainGlobals "isinstance" = some none)
    (z_len : PySem.W.nsIn K mainGlobals "len" = some none)
    (z_list : PySem.W.nsIn K mainGlobals "list" = some none)
    (z_range : PySem.W.nsIn K mainGlobals "range" = some none)
    (z_sorted : PySem.W.nsIn K mainGlobals "sorted" = some none)
    (z_str : PySem.W.nsIn K mainGlobals "str" = some none)
    (z_tuple : PySem.W.nsIn K mainGlobals "tuple" = some none)
    (z_zip : PySem.W.nsIn K mainGlobals "zip" = some none)
    (nl : noList K = true)
    (hv : ∀ ns : List Int, ns.length ≤ 63 → ∃ ps, d_law [.d (.lst (ns.map D.int))] = .ok (.d (.bl true)) ps) :
    ∃ fd : FuncData, (∀ (s : Shared) (v : Value), BindsTo s fd ⟨[v], []⟩ [("script", v)]) ∧ ∀ base : Heap, K.In base → base.Ns mainGlobals mg → FnOk l.prog w K mg base (L2.CX l.prog w) 9 fa fd ["script"] (spLaw K) := by
  have e := hfa.symm.trans (PySem.W.mg_of X G a15)
  cases e
  let Fx : Facts K mg := { a_switch_places := f0, fd_switch_places := _, F_switch_places := fun_mk (st := s_switch_places) l0 c0 k0, g_switch_places := PySem.W.mg_of X G a0, a__switches := f1, fd__switches := _, F__switches := fun_mk (st := s__switches) l1 c1 k1, g__switches := PySem.W.mg_of X G a1, a__check_settings := f2, fd__check_settings := _, F__check_settings := fun_mk (st := s__check_settings) l2 c2 k2, g__check_settings := PySem.W.mg_of X G a2, a_source_places := f3, fd_source_places := _, F_source_places := fun_mk (st := s_source_places) l3 c3 k3, g_source_places := PySem.W.mg_of X G a3, a_settings_for := f4, fd_settings_for := _, F_settings_for := fun_mk (st := s_settings_for) l4 c4 k4, g_settings_for := PySem.W.mg_of X G a4, a__law_pool := f5, fd__law_pool := _, F__law_pool := fun_mk (st := s__law_pool) l5 c5 k5, g__law_pool := PySem.W.mg_of X G a5, a__law_mixed := f6, fd__law_mixed := _, F__law_mixed := fun_mk (st := s__law_mixed) l6 c6 k6, g__law_mixed := PySem.W.mg_of X G a6, a__law_take := f7, fd__law_take := _, F__law_take := fun_mk (st := s__law_take) l7 c7 k7, g__law_take := PySem.W.mg_of X G a7, a__law_same := f8, fd__law_same := _, F__law_same := fun_mk (st := s__law_same) l8 c8 k8, g__law_same := PySem.W.mg_of X G a8, a__law_switches := f9, fd__law_switches := _, F__law_switches := fun_mk (st := s__law_switches) l9 c9 k9, g__law_switches := PySem.W.mg_of X G a9, a__law_sources := f10, fd__law_sources := _, F__law_sources := fun_mk (st := s__law_sources) l10 c10 k10, g__law_sources := PySem.W.mg_of X G a10, a__law_goals := f11, fd__law_goals := _, F__law_goals := fun_mk (st := s__law_goals) l11 c11 k11, g__law_goals := PySem.W.mg_of X G a11, a__law_refused := f12, fd__law_refused := _, F__law_refused := fun_mk (st := s__law_refused) l12 c12 k12, g__law_refused := PySem.W.mg_of X G a12, a__law_wrong_settings := f13, fd__law_wrong_settings := _, F__law_wrong_settings := fun_mk (st := s__law_wrong_settings) l13 c13 k13, g__law_wrong_settings := PySem.W.mg_of X G a13, a__law_wrong_orders := f14, fd__law_wrong_orders := _, F__law_wrong_orders := fun_mk (st := s__law_wrong_orders) l14 c14 k14, g__law_wrong_orders := PySem.W.mg_of X G a14, a_law := fa, fd_law := _, F_law := fun_mk (st := s_law) l15 c15 k15, g_law := PySem.W.mg_of X G a15, C_HushError := C_HushError, gc_HushError := PySem.W.mg_of X G gc_HushError, k_HushError := k_HushError, q_HushError := q_HushError, b_HushError := b_HushError, t_HushError := t_HushError, e_HushError := ⟨ehg_HushError, ehk_HushError, ehs_HushError, ehd_HushError, eha_HushError, ehn, eht, ehm_HushError⟩, C_BadStatement := C_BadStatement, gc_BadStatement := PySem.W.mg_of X G gc_BadStatement, k_BadStatement := k_BadStatement, q_BadStatement := q_BadStatement, b_BadStatement := b_BadStatement, t_BadStatement := t_BadStatement, e_BadStatement := ⟨ehg_BadStatement, ehk_BadStatement, ehs_BadStatement, ehd_BadStatement, eha_BadStatement, ehn, eht, ehm_BadStatement⟩, C_BadTape := C_BadTape, gc_BadTape := PySem.W.mg_of X G gc_BadTape, k_BadTape := k_BadTape, q_BadTape := q_BadTape, b_BadTape := b_BadTape, t_BadTape := t_BadTape, e_BadTape := ⟨ehg_BadTape, ehk_BadTape, ehs_BadTape, ehd_BadTape, eha_BadTape, ehn, eht, ehm_BadTape⟩, i_HushError_BadStatement := i_HushError_BadStatement, i_BadStatement_BadStatement := i_BadStatement_BadStatement, i_BadTape_BadStatement := i_BadTape_BadStatement, i_HushError_BadTape := i_HushError_BadTape, i_BadStatement_BadTape := i_BadStatement_BadTape, i_BadTape_BadTape := i_BadTape_BadTape, x_HushError_HushError := x_HushError_HushError, x_BadStatement_HushError := x_BadStatement_HushError, x_BadTape_HushError := x_BadTape_HushError, z_bool := PySem.W.mg_none_of X G z_bool, z_enumerate := PySem.W.mg_none_of X G z_enumerate, z_int := PySem.W.mg_none_of X G z_int, z_isinstance := PySem.W.mg_none_of X G z_isinstance, z_len := PySem.W.mg_none_of X G z_len, z_list := PySem.W.mg_none_of X G z_list, z_range := PySem.W.mg_none_of X G z_range, z_sorted := PySem.W.mg_none_of X G z_sorted, z_str := PySem.W.mg_none_of X G z_str, z_tuple := PySem.W.mg_none_of X G z_tuple, z_zip := PySem.W.mg_none_of X G z_zip }
  exact ⟨Fx.fd_law, fun s v => .of_eq rfl, fun base _ _ => (ok_law (P := l.prog) (w := w) (base := base) Fx).imp (top_imp nl hv)⟩
end K73

/-! MXs: reckoning denotations out. -/
namespace MX
open PySem L2
section
variable {α β : Type} {e e1 : En} {x : α} {c : String} {ps : List (Str × D)} {i j : Int} {b : Bool}
@[simp] theorem z1 {f : α → En → Rs β} : (Rs.ok x e).bind f = f x e := Eq.trans rfl rfl
@[simp] theorem z2 {f : α → En → Rs β} : (Rs.exc c ps e : Rs α).bind f = .exc c ps e := Eq.trans rfl rfl
@[simp] theorem z3 {f : α → En → Rs β} : (Rs.bad : Rs α).bind f = .bad := Eq.trans rfl rfl
@[simp] theorem z4 {f : α → En → Out} : (Rs.ok x e).out f = f x e := Eq.trans rfl rfl
@[simp] theorem z5 {f : α → En → Out} : (Rs.exc c ps e : Rs α).out f = .exc c ps e := Eq.trans rfl rfl
@[simp] theorem z6 {f : α → En → Out} : (Rs.bad : Rs α).out f = .bad := Eq.trans rfl rfl
@[simp] theorem z7 {f : En → Out} : (Out.nx e).andThen f = f e := Eq.trans rfl rfl
@[simp] theorem z8 {o : O} {f : En → Out} : (Out.rt o e).andThen f = .rt o e := Eq.trans rfl rfl
@[simp] theorem z9 {f : En → Out} : (Out.exc c ps e).andThen f = .exc c ps e := Eq.trans rfl rfl
@[simp] theorem z10 {f : En → Out} : (Out.bk e).andThen f = .bk e := Eq.trans rfl rfl
@[simp] theorem z11 {f : En → Out} : (Out.ct e).andThen f = .ct e := Eq.trans rfl rfl
@[simp] theorem z12 {f : En → Out} : (Out.bad).andThen f = .bad := Eq.trans rfl rfl
@[simp] theorem z13 {x : D} : dC x e = .ok (.d x) e := Eq.trans rfl rfl
@[simp] theorem z14 {d : En → Rs O} : vT d e = (d e).bind fun o e1 => .ok (.t o) e1 := Eq.trans rfl rfl
@[simp] theorem z15 {n : Nat} : vS n e = match slot e n with | some _ => .ok (.s n) e | none => .bad := Eq.trans rfl rfl
@[simp] theorem z16 {o : O} : Ar.get e (.t o) = some o := Eq.trans rfl rfl
@[simp] theorem z17 {n : Nat} : Ar.get e (.s n) = slot e n := Eq.trans rfl rfl
@[simp] theorem z18 {z : O} : fin (some z) e = .ok z e := Eq.trans rfl rfl
@[simp] theorem z19 : fin none e = .bad := Eq.trans rfl rfl
def bin2 (f : O → O → Option O) (a b : Option O) (e : En) : Rs O := match a, b with
  | some a, some b => fin (f a b) e
  | _, _ => .bad
@[simp] theorem z20 {f : O → O → Option O} {a b : O} : bin2 f (some a) (some b) e = fin (f a b) e := Eq.trans rfl rfl
@[simp] theorem z21 {f : O → O → Option O} {da db : En → Rs Ar} : dBin f da db e = (da e).bind fun x e1 => (db e1).bind fun y e2 => bin2 f (x.get e2) (y.get e2) e2 := Eq.trans rfl rfl
@[simp] theorem z22 {f : O → Option O} {da : En → Rs Ar} : dUn f da e = (da e).bind fun x e1 => match x.get e1 with
  | some a => fin (f a) e1
  | none => .bad := Eq.trans rfl rfl
@[simp] theorem z23 {d : En → Rs O} : dTst d e = (d e).bind fun o e1 => match o with
  | .d (.bl b) => .ok b e1
  | _ => .bad := Eq.trans rfl rfl
@[simp] theorem z24 {a b : En → Rs Bool} : dAndT a b e = (a e).bind fun k e1 => if k = true then b e1 else .ok false e1 := Eq.trans rfl rfl
@[simp] theorem z25 {a b : En → Rs Bool} : dOrT a b e = (a e).bind fun k e1 => if k = true then .ok true e1 else b e1 := Eq.trans rfl rfl
@[simp] theorem z26 {a : En → Rs Bool} : dNotT a e = (a e).bind fun k e1 => .ok (!k) e1 := Eq.trans rfl rfl
@[simp] theorem z27 {a b : En → Rs O} : dAndV a b e = (dTst a e).bind fun k e1 => if k = true then b e1 else .ok (.d (.bl false)) e1 := Eq.trans rfl rfl
@[simp] theorem z28 {a b : En → Rs O} : dOrV a b e = (dTst a e).bind fun k e1 => if k = true then .ok (.d (.bl true)) e1 else b e1 := Eq.trans rfl rfl
@[simp] theorem z29 {a : En → Rs O} : dNotV a e = (dTst a e).bind fun k e1 => .ok (.d (.bl (!k))) e1 := Eq.trans rfl rfl
@[simp] theorem z30 {d : En → Rs Bool} {a b : En → Rs O} : dIf d a b e = (d e).bind fun k e1 => if k = true then a e1 else b e1 := Eq.trans rfl rfl
@[simp] theorem z31 : aNil e = .ok [] e := Eq.trans rfl rfl
@[simp] theorem z32 {d : En → Rs O} {r : En → Rs (List O)} : aCons d r e = (d e).bind fun o e1 => (r e1).bind fun os e2 => .ok (o :: os) e2 := Eq.trans rfl rfl
@[simp] theorem z33 {d : En → Rs (List O)} : dTup d e = (d e).bind fun os e1 => if os.length ≤ sizeLine then .ok (.d (.tup (fzs os))) e1 else .bad := Eq.trans rfl rfl
@[simp] theorem z34 {d : En → Rs (List O)} : dLst d e = (d e).bind fun os e1 => if os.length ≤ sizeLine then .ok (.lst os) e1 else .bad := Eq.trans rfl rfl
@[simp] theorem z35 {a : Ar} {as : List Ar} : gets e (a :: as) = match a.get e, gets e as with
  | some o, some os => some (o :: os)
  | _, _ => none := Eq.trans rfl rfl
@[simp] theorem z36 : gets e [] = some [] := Eq.trans rfl rfl
@[simp] theorem z37 : vNil e = .ok [] e := Eq.trans rfl rfl
@[simp] theorem z38 {d : En → Rs Ar} {r : En → Rs (List Ar)} : vCons d r e = (d e).bind fun x e1 => (r e1).bind fun xs e2 => .ok (x :: xs) e2 := Eq.trans rfl rfl
@[simp] theorem z39 {f : List O → Option O} {d : En → Rs (List Ar)} : dCall f d e = (d e).bind fun xs e1 => match gets e1 xs with
  | some os => fin (f os) e1
  | none => .bad := Eq.trans rfl rfl
@[simp] theorem z40 : sNext e = .nx e := Eq.trans rfl rfl
@[simp] theorem z41 {a b : En → Out} : sSeq a b e = (a e).andThen b := Eq.trans rfl rfl
@[simp] theorem z42 {d : En → Rs O} : sExpr d e = (d e).out fun _ e1 => .nx e1 := Eq.trans rfl rfl
@[simp] theorem z43 {d : En → Rs O} : sRet d e = (d e).out fun o e1 => .rt o e1 := Eq.trans rfl rfl
@[simp] theorem z44 {d : En → Rs Bool} {a b : En → Out} : sIf d a b e = (d e).out fun k e1 => if k = true then a e1 else b e1 := Eq.trans rfl rfl
def nxo : Option En → Out
  | some e => .nx e
  | none => .bad
@[simp] theorem z45 : nxo (some e) = .nx e := Eq.trans rfl rfl
theorem nxo_eq {x : Option En} : (match x with | some e2 => Out.nx e2 | none => .bad) = nxo x := by cases x <;> rfl
@[simp] theorem z46 {d : En → Rs O} {t : Tg} : sAsg d t e = (d e).out fun o e1 => nxo (t o e1) := Eq.trans rfl rfl
@[simp] theorem z47 {n : Nat} {o : O} : tName n o e = setS e n o := Eq.trans rfl rfl
@[simp] theorem z48 : tgNil [] e = some e := Eq.trans rfl rfl
@[simp] theorem z49 {a : Tg} {b : Tgs} {d : D} {ds : List D} : tgCons a b (d :: ds) e = (a (.d d) e).bind fun e1 => b ds e1 := Eq.trans rfl rfl
@[simp] theorem z50 {t : Tgs} {ds : List D} : tTupl t (.d (.tup ds)) e = t ds e := Eq.trans rfl rfl
@[simp] theorem z51 {m n : Nat} {d : En → Rs (List O)} : sPar m n d e = (d e).out fun os e1 => match os with
  | [a, b] => match setS e1 m a with
    | some e2 => match setS e2 n b with
      | some e3 => .nx e3
      | none => .bad
    | none => .bad
  | _ => .bad := Eq.trans rfl rfl
@[simp] theorem z52 {n : Nat} {f : O → O → Option O} {d : En → Rs Ar} : sAug n f d e = match slot e n with
  | some _ => (d e).out fun y e1 => match slot e1 n, y.get e1 with
    | some a, some b => match f a b with
      | some z => match setS e1 n z with
        | some e2 => .nx e2
        | none => .bad
      | none => .bad
    | _, _ => .bad
  | none => .bad := Eq.trans rfl rfl
@[simp] theorem z53 {it : En → Rs (List D)} {t : Tg} {b : En → Out} : sFor it t b e = (it e).out fun ds e1 => sForL t b ds e1 := Eq.trans rfl rfl
@[simp] theorem z54 {n : Nat} : gName n e = match slot e n with
  | some (.d x) => .ok (.d x, none) e
  | some o => .ok (o, some n) (lentS e n)
  | none => .bad := Eq.trans rfl rfl
@[simp] theorem z55 {d : En → Rs O} : gVal d e = (d e).bind fun o e1 => .ok (o, none) e1 := Eq.trans rfl rfl
@[simp] theorem z56 : cNil e = .ok [] e := Eq.trans rfl rfl
@[simp] theorem z57 {g : En → Rs Ag} {r : En → Rs (List Ag)} : cCons g r e = (g e).bind fun a e1 => (r e1).bind fun as e2 => .ok (a :: as) e2 := Eq.trans rfl rfl
@[simp] theorem z58 {a b : En → Rs (List Ag)} : cApp a b e = (a e).bind fun as e1 => (b e1).bind fun bs e2 => .ok (as ++ bs) e2 := Eq.trans rfl rfl
def callR (r : RF) (as : List Ag) (e1 : En) : Rs O := match r with
  | .ok o ps => match wb e1 as ps with
    | some e2 => .ok o e2
    | none => .bad
  | .exc c pl ps => match wb e1 as ps with
    | some e2 => .exc c pl e2
    | none => .bad
  | .bad => .bad
def okO (o : O) : Option En → Rs O
  | some e2 => .ok o e2
  | none => .bad
@[simp] theorem z59 {o : O} {qs : List (Option O)} {as : List Ag} : callR (.ok o qs) as e1 = okO o (wb e1 as qs) := by cases h : wb e1 as qs <;> simp [callR, okO, h]
@[simp] theorem z60 {o : O} : okO o (some e) = .ok o e := Eq.trans rfl rfl
def excO' (c : String) (pl : List (Str × D)) : Option En → Rs O
  | some e2 => .exc c pl e2
  | none => .bad
@[simp] theorem z61 {qs : List (Option O)} {as : List Ag} : callR (.exc c ps qs) as e1 = excO' c ps (wb e1 as qs) := by cases h : wb e1 as qs <;> simp [callR, excO', h]
@[simp] theorem z62 : excO' c ps (some e) = .exc c ps e := Eq.trans rfl rfl
@[simp] theorem z63 {den : Den} {p : List Nat} {g : En → Rs (List Ag)} : dCallF den p g e = (g e).bind fun as e1 => callR (den ((ord p as).map (·.1))) (ord p as) e1 := Eq.trans rfl rfl
@[simp] theorem z64 {o : O} {as : List Ag} {q : Option O} {qs : List (Option O)} : wb e ((o, none) :: as) (q :: qs) = wb e as qs := by cases q <;> rfl
@[simp] theorem z65 {q : List (Option O)} : wb e [] q = some e := by cases q <;> rfl
@[simp] theorem z66 {n : Nat} {f} {d : En → Rs (List O)} : dMut n f d e = match isLst (slot e n) with
  | true => (d e).bind fun os e1 => match slot e1 n with
    | some (.lst c) => match f c os with
      | some (c', z) => .ok z (putS e1 n (.lst c'))
      | none => .bad
    | _ => .bad
  | false => .bad := Eq.trans rfl rfl
@[simp] theorem z67 {xs : List O} : isLst (some (.lst xs)) = true := Eq.trans rfl rfl
@[simp] theorem z68 {d : En → Rs (List Ar)} {f : List O → Option (List D)} : iOps d f e = (d e).bind fun xs e1 => match gets e1 xs with
  | some os => match f os with
    | some ds => .ok ds e1
    | none => .bad
  | none => .bad := Eq.trans rfl rfl
@[simp] theorem z69 : dYes e = .ok true e := Eq.trans rfl rfl
@[simp] theorem z70 {it : En → Rs (List D)} {vs : List Nat} {t : Tg} {d : En → Rs Bool} {el : En → Rs O} : dLc it vs t d el e = (it e).bind fun ds e1 => lcL vs t d el ds [] (wipeE e1 vs) := Eq.trans rfl rfl
@[simp] theorem z71 : oNone e = .ok none e := Eq.trans rfl rfl
@[simp] theorem z72 {d : En → Rs Ar} : oSome d e = (d e).bind fun x e1 => match x.get e1 with
  | some (.d (.int i)) => .ok (some i) e1
  | _ => .bad := Eq.trans rfl rfl
def sl1 (f : O → Option Int → Option Int → Option O) (a : Option O) (l u : Option Int) (e : En) : Rs O := match a with
  | some a => fin (f a l u) e
  | none => .bad
@[simp] theorem z73 {f} {a : O} {l u : Option Int} : sl1 f (some a) l u e = fin (f a l u) e := Eq.trans rfl rfl
@[simp] theorem z74 {f} {d : En → Rs Ar} {lo hi : En → Rs (Option Int)} : dSl f d lo hi e = (d e).bind fun x e1 => (lo e1).bind fun l e2 => (hi e2).bind fun u e3 => sl1 f (x.get e3) l u e3 := Eq.trans rfl rfl
def orR {α : Type} (r : Rs α) (s : En → Rs α) (e : En) : Rs α := match r with
  | .bad => s e
  | r => r
@[simp] theorem z75 {s : En → Rs α} : orR (.ok x e1) s e = .ok x e1 := Eq.trans rfl rfl
@[simp] theorem z76 {s : En → Rs α} : orR (.exc c ps e1) s e = .exc c ps e1 := Eq.trans rfl rfl
@[simp] theorem z77 {s : En → Rs α} : orR .bad s e = s e := Eq.trans rfl rfl
@[simp] theorem z78 {a b : En → Rs α} : dOr a b e = orR (a e) b e := Eq.trans rfl rfl
@[simp] theorem z79 {d : En → Rs O} : dFz d e = (d e).bind fun o e1 => .ok (.d o.fz) e1 := Eq.trans rfl rfl
def tsub1 (n : Nat) (o : O) (e2 : En) : Option O → Option O → Option En
  | some ko, some c => match c.store ko o with
    | some c' => some (putS e2 n c')
    | none => none
  | _, _ => none
@[simp] theorem z80 {n : Nat} {o ko c : O} : tsub1 n o e (some ko) (some c) = match c.store ko o with
    | some c' => some (putS e n c')
    | none => none := Eq.trans rfl rfl
def tsub2 (n : Nat) (o : O) : Rs Ar → Option En
  | .ok x e2 => tsub1 n o e2 (x.get e2) (slot e2 n)
  | _ => none
@[simp] theorem z81 {n : Nat} {o : O} {x : Ar} : tsub2 n o (.ok x e) = tsub1 n o e (x.get e) (slot e n) := Eq.trans rfl rfl
@[simp] theorem z82 {n : Nat} {dk : En → Rs Ar} {o : O} : tSub n dk o e = match slot e n with
  | some _ => tsub2 n o (dk e)
  | none => none := by
  unfold tSub tsub2 tsub1
  cases slot e n with
  | none => rfl
  | some c => cases dk e <;> rfl
@[simp] theorem z83 {d : En → Rs (List O)} {f : List D → Option (List D)} : iAr d f e = (d e).bind fun os e1 => match f (fzs os) with
  | some ds => .ok ds e1
  | none => .bad := Eq.trans rfl rfl
@[simp] theorem z84 {d : En → Rs O} : iRev d e = (d e).bind fun o e1 => match seqD o.fz with
  | some ds => .ok ds.reverse e1
  | none => .bad := Eq.trans rfl rfl
def any1 (o : O) (e1 : En) : Rs (List D) := match o with
  | .lst os => .ok (fzs os) e1
  | .d (.lst ds) => .ok ds e1
  | .d (.tup ds) => .ok ds e1
  | _ => .bad
@[simp] theorem z85 {d : En → Rs O} : iAny d e = (d e).bind any1 := by
  unfold iAny dOr iSeq iTupl any1
  cases h : d e with
  | bad => simp [h]
  | exc c ps e1 => simp [h]
  | ok o e1 =>
    simp only [h, z1]
    cases o with
    | d x => cases x <;> simp
    | _ => simp
@[simp] theorem z86 {os : List O} : any1 (.lst os) e = .ok (fzs os) e := Eq.trans rfl rfl
@[simp] theorem z87 {ds : List D} : any1 (.d (.lst ds)) e = .ok ds e := Eq.trans rfl rfl
@[simp] theorem z88 {ds : List D} : any1 (.d (.tup ds)) e = .ok ds e := Eq.trans rfl rfl
@[simp] theorem z89 {d : En → Rs Ar} : rg1 d e = (d e).bind fun x e1 => match x.get e1 with
  | some (.d (.int n)) => .ok ((0 : Int), n) e1
  | _ => .bad := Eq.trans rfl rfl
@[simp] theorem z90 {d d2 : En → Rs Ar} : rg2 d d2 e = (d e).bind fun x e1 => (d2 e1).bind fun y e2 => match x.get e2, y.get e2 with
  | some (.d (.int n)), some (.d (.int m)) => .ok (n, m) e2
  | _, _ => .bad := Eq.trans rfl rfl
@[simp] theorem z91 {d : En → Rs (Int × Int)} : dLRg d e = (d e).bind fun ab e1 => if rgB ab.1 ab.2 = true then .ok (.lst ((rgD ab.1 ab.2).map .d)) e1 else .bad := Eq.trans rfl rfl
@[simp] theorem z92 {d : En → Rs (Int × Int)} : dTRg d e = (d e).bind fun ab e1 => if rgB ab.1 ab.2 = true then .ok (.d (.tup (rgD ab.1 ab.2))) e1 else .bad := Eq.trans rfl rfl
@[simp] theorem z93 {T : String} {f} {da : En → Rs Ar} {d : En → Rs (List Ar)} : dMeth T f da d e = (da e).bind fun x e1 => match x.get e1 with
  | some a0 => if a0.ty = T then (d e1).bind fun xs e2 => match x.get e2, gets e2 xs with
    | some a, some os => fin (f a os) e2
    | _, _ => .bad
    else .bad
  | none => .bad := Eq.trans rfl rfl
@[simp] theorem z94 {it : En → Rs (List D)} {vs : List Nat} {t : Tg} {d : En → Rs Bool} {it1 : En → Rs (List D)} {vs1 : List Nat} {t1 : Tg} {d1 : En → Rs Bool} {el : En → Rs O} : dLc2 it vs t d it1 vs1 t1 d1 el e = (it e).bind fun ds e1 => lc2L vs t d it1 vs1 t1 d1 el ds [] (wipeE e1 vs) := Eq.trans rfl rfl
@[simp] theorem z95 : sRaise c e = .exc c [] e := Eq.trans rfl rfl
@[simp] theorem z96 : aAll [] e = .ok [] e := Eq.trans rfl rfl
@[simp] theorem z97 {d : En → Rs O} {ds : List (En → Rs O)} : aAll (d :: ds) e = (d e).bind fun o e1 => (aAll ds e1).bind fun os e2 => .ok (o :: os) e2 := Eq.trans rfl rfl
@[simp] theorem z98 {ks : List Key} {ds : List (En → Rs O)} : dDisp ks ds e = (aAll ds e).bind fun os e1 => .ok (.dic ks os) e1 := Eq.trans rfl rfl
@[simp] theorem z99 {n : Nat} : dVar n e = match slot e n with
  | some (.d x) => .ok (.d x) e
  | some o => .ok (.d o.fz) (putS e n (.d o.fz))
  | none => .bad := Eq.trans rfl rfl
@[simp] theorem z100 : fzs [] = [] := Eq.trans rfl rfl
@[simp] theorem z101 {o : O} {os : List O} : fzs (o :: os) = o.fz :: fzs os := Eq.trans rfl rfl
@[simp] theorem z102 {x : D} : O.fz (.d x) = x := Eq.trans rfl rfl
@[simp] theorem z103 {os : List O} : O.fz (.lst os) = .lst (fzs os) := Eq.trans rfl rfl
@[simp] theorem z104 {xs : List D} : fzs (xs.map O.d) = xs := fzs_leaf xs
@[simp] theorem z104b {γ : Type} {f : γ → D} {xs : List γ} : fzs (xs.map (O.d ∘ f)) = xs.map f := by rw [← List.map_map, fzs_leaf]
@[simp] theorem z105 {a : α} {l : List α} : ord [0] (a :: l) = [a] := Eq.trans rfl rfl
@[simp] theorem z106 : ord [] ([] : List α) = [] := Eq.trans rfl rfl
@[simp] theorem z107 {a b : α} {l : List α} : ord [0, 1] (a :: b :: l) = [a, b] := Eq.trans rfl rfl
@[simp] theorem z108 {a b c : α} {l : List α} : ord [0, 1, 2] (a :: b :: c :: l) = [a, b, c] := Eq.trans rfl rfl
@[simp] theorem z109 {a b c d : α} {l : List α} : ord [0, 1, 2, 3] (a :: b :: c :: d :: l) = [a, b, c, d] := Eq.trans rfl rfl
@[simp] theorem z110 {a b c d f : α} {l : List α} : ord [0, 1, 2, 3, 4] (a :: b :: c :: d :: f :: l) = [a, b, c, d, f] := Eq.trans rfl rfl
@[simp] theorem z111 {d : En → Rs O} {n : Nat} : dSave n d e = match e[n]? with
  | some s => match s.cont with
    | some o => (d (e.set n s.lent)).bind fun r e1 => match e1[n]? with
      | some s1 => match s1.cont with
        | none => .ok r (e1.set n (s1.put o))
        | some _ => .bad
      | none => .bad
    | none => d e
  | none => d e := Eq.trans rfl rfl
@[simp] theorem z112 : wipeE e [] = e := Eq.trans rfl rfl
@[simp] theorem z113 {v : Nat} {vs : List Nat} : wipeE e (v :: vs) = (wipeE e vs).set v .no := Eq.trans rfl rfl
/-! operators at given values -/
@[simp] theorem y1 : fAdd (.d (.int i)) (.d (.int j)) = some (.d (.int (i + j))) := Eq.trans rfl rfl
@[simp] theorem y2 : fSub (.d (.int i)) (.d (.int j)) = some (.d (.int (i - j))) := Eq.trans rfl rfl
@[simp] theorem y3 : fLt (.d (.int i)) (.d (.int j)) = some (.d (.bl (decide (i < j)))) := Eq.trans rfl rfl
@[simp] theorem y4 : fLe (.d (.int i)) (.d (.int j)) = some (.d (.bl (decide (i ≤ j)))) := Eq.trans rfl rfl
@[simp] theorem y5 : fGt (.d (.int i)) (.d (.int j)) = some (.d (.bl (decide (j < i)))) := Eq.trans rfl rfl
@[simp] theorem y6 : fGe (.d (.int i)) (.d (.int j)) = some (.d (.bl (decide (j ≤ i)))) := Eq.trans rfl rfl
@[simp] theorem y7 : fEq (.d (.int i)) (.d (.int j)) = some (.d (.bl (decide (i = j)))) := Eq.trans rfl rfl
@[simp] theorem y8 : fNe (.d (.int i)) (.d (.int j)) = some (.d (.bl (!decide (i = j)))) := Eq.trans rfl rfl
@[simp] theorem y9 : fNeg (.d (.int i)) = some (.d (.int (-i))) := Eq.trans rfl rfl
@[simp] theorem y10 : on1 fInt [.d (.int i)] = some (.d (.int i)) := Eq.trans rfl rfl
@[simp] theorem y11 : on1 fInt [.d (.bl b)] = some (.d (.int (if b = true then 1 else 0))) := Eq.trans rfl rfl
@[simp] theorem y12 {ds : List D} : fLenU [.d (.lst ds)] = some (.d (.int ds.length)) := Eq.trans rfl rfl
@[simp] theorem y13 {ds : List D} : fLenU [.d (.tup ds)] = some (.d (.int ds.length)) := Eq.trans rfl rfl
@[simp] theorem y14 {os : List O} : fLenU [.lst os] = some (.d (.int os.length)) := Eq.trans rfl rfl
theorem sm_of {i : Int} (h1 : -(2 ^ 64) < i) (h2 : i < 2 ^ 64) : isSm i = true := by
  unfold isSm; rw [decide_eq_true h1, decide_eq_true h2]; rfl
theorem y15 (h : isSm i = true) : fMul (.d (.int i)) (.d (.int j)) = some (.d (.int (i * j))) := by simp [fMul, fMulS, onI, h]
theorem y16 (h : isSm j = true) : fMul (.d (.int i)) (.d (.int j)) = some (.d (.int (i * j))) := by simp [fMul, fMulS, onI, h]
theorem y17 (h : 0 < j) : fMod (.d (.int i)) (.d (.int j)) = some (.d (.int (i % j))) := by simp [fMod, onI, h]
theorem y18 (h : 0 < j) (h2 : j < 2 ^ 64) : fDiv (.d (.int i)) (.d (.int j)) = some (.d (.int (i / j))) := by
  have h3 : j.natAbs.log2 < 9000 := by
    by_cases h0 : j.natAbs = 0
    · rw [h0]; decide
    · exact Nat.lt_trans ((Nat.log2_lt h0).mpr (by have : j.natAbs < 2 ^ 64 := by omega
                                                   exact this)) (by decide)
  simp [fDiv, onI, h, h3]

@[simp] theorem w0a {s : Sl} : slot (s :: e) 0 = s.cont := Eq.trans rfl rfl
@[simp] theorem w0b {s : Sl} {o : O} : putS (s :: e) 0 o = s.put o :: e := Eq.trans rfl rfl
@[simp] theorem w0c {s : Sl} : lentS (s :: e) 0 = s.lent :: e := Eq.trans rfl rfl
@[simp] theorem w0d {o : O} : setS (.no :: e) 0 o = some (.v o :: e) := Eq.trans rfl rfl
@[simp] theorem w0e {o x : O} : setS (.v x :: e) 0 o = some (.v o :: e) := Eq.trans rfl rfl
@[simp] theorem w0i {s : Sl} {o : O} (h : s.pinned = false) : setS (s :: e) 0 o = some (.v o :: e) := by simp [setS, h]
@[simp] theorem w0f {o : O} : dMove 0 (.v o :: e) = .ok o (.no :: e) := Eq.trans rfl rfl
@[simp] theorem w0g {s : Sl} {o q : O} {as : List Ag} {qs : List (Option O)} (h : s.cont = none) : wb (s :: e) ((o, some 0) :: as) (some q :: qs) = wb (s.put q :: e) as qs := by simp [wb, h, putS, modS]
@[simp] theorem w0h {s : Sl} {t : Sl} : List.set (s :: e) 0 t = t :: e := Eq.trans rfl rfl
@[simp] theorem w1a {s0 : Sl} {s : Sl} : slot (s0 :: s :: e) 1 = s.cont := Eq.trans rfl rfl
@[simp] theorem w1b {s0 : Sl} {s : Sl} {o : O} : putS (s0 :: s :: e) 1 o = s0 :: s.put o :: e := Eq.trans rfl rfl
@[simp] theorem w1c {s0 : Sl} {s : Sl} : lentS (s0 :: s :: e) 1 = s0 :: s.lent :: e := Eq.trans rfl rfl
@[simp] theorem w1d {s0 : Sl} {o : O} : setS (s0 :: .no :: e) 1 o = some (s0 :: .v o :: e) := Eq.trans rfl rfl
@[simp] theorem w1e {s0 : Sl} {o x : O} : setS (s0 :: .v x :: e) 1 o = some (s0 :: .v o :: e) := Eq.trans rfl rfl
@[simp] theorem w1i {s0 : Sl} {s : Sl} {o : O} (h : s.pinned = false) : setS (s0 :: s :: e) 1 o = some (s0 :: .v o :: e) := by simp [setS, h]
@[simp] theorem w1f {s0 : Sl} {o : O} : dMove 1 (s0 :: .v o :: e) = .ok o (s0 :: .no :: e) := Eq.trans rfl rfl
@[simp] theorem w1g {s0 : Sl} {s : Sl} {o q : O} {as : List Ag} {qs : List (Option O)} (h : s.cont = none) : wb (s0 :: s :: e) ((o, some 1) :: as) (some q :: qs) = wb (s0 :: s.put q :: e) as qs := by simp [wb, h, putS, modS]
@[simp] theorem w1h {s0 : Sl} {s : Sl} {t : Sl} : List.set (s0 :: s :: e) 1 t = s0 :: t :: e := Eq.trans rfl rfl
@[simp] theorem w2a {s0 s1 : Sl} {s : Sl} : slot (s0 :: s1 :: s :: e) 2 = s.cont := Eq.trans rfl rfl
@[simp] theorem w2b {s0 s1 : Sl} {s : Sl} {o : O} : putS (s0 :: s1 :: s :: e) 2 o = s0 :: s1 :: s.put o :: e := Eq.trans rfl rfl
@[simp] theorem w2c {s0 s1 : Sl} {s : Sl} : lentS (s0 :: s1 :: s :: e) 2 = s0 :: s1 :: s.lent :: e := Eq.trans rfl rfl
@[simp] theorem w2d {s0 s1 : Sl} {o : O} : setS (s0 :: s1 :: .no :: e) 2 o = some (s0 :: s1 :: .v o :: e) := Eq.trans rfl rfl
@[simp] theorem w2e {s0 s1 : Sl} {o x : O} : setS (s0 :: s1 :: .v x :: e) 2 o = some (s0 :: s1 :: .v o :: e) := Eq.trans rfl rfl
@[simp] theorem w2i {s0 s1 : Sl} {s : Sl} {o : O} (h : s.pinned = false) : setS (s0 :: s1 :: s :: e) 2 o = some (s0 :: s1 :: .v o :: e) := by simp [setS, h]
@[simp] theorem w2f {s0 s1 : Sl} {o : O} : dMove 2 (s0 :: s1 :: .v o :: e) = .ok o (s0 :: s1 :: .no :: e) := Eq.trans rfl rfl
@[simp] theorem w2g {s0 s1 : Sl} {s : Sl} {o q : O} {as : List Ag} {qs : List (Option O)} (h : s.cont = none) : wb (s0 :: s1 :: s :: e) ((o, some 2) :: as) (some q :: qs) = wb (s0 :: s1 :: s.put q :: e) as qs := by simp [wb, h, putS, modS]
@[simp] theorem w2h {s0 s1 : Sl} {s : Sl} {t : Sl} : List.set (s0 :: s1 :: s :: e) 2 t = s0 :: s1 :: t :: e := Eq.trans rfl rfl
@[simp] theorem w3a {s0 s1 s2 : Sl} {s : Sl} : slot (s0 :: s1 :: s2 :: s :: e) 3 = s.cont := Eq.trans rfl rfl
@[simp] theorem w3b {s0 s1 s2 : Sl} {s : Sl} {o : O} : putS (s0 :: s1 :: s2 :: s :: e) 3 o = s0 :: s1 :: s2 :: s.put o :: e := Eq.trans rfl rfl
@[simp] theorem w3c {s0 s1 s2 : Sl} {s : Sl} : lentS (s0 :: s1 :: s2 :: s :: e) 3 = s0 :: s1 :: s2 :: s.lent :: e := Eq.trans rfl rfl
@[simp] theorem w3d {s0 s1 s2 : Sl} {o : O} : setS (s0 :: s1 :: s2 :: .no :: e) 3 o = some (s0 :: s1 :: s2 :: .v o :: e) := Eq.trans rfl rfl
@[simp] theorem w3e {s0 s1 s2 : Sl} {o x : O} : setS (s0 :: s1 :: s2 :: .v x :: e) 3 o = some (s0 :: s1 :: s2 :: .v o :: e) := Eq.trans rfl rfl
@[simp] theorem w3i {s0 s1 s2 : Sl} {s : Sl} {o : O} (h : s.pinned = false) : setS (s0 :: s1 :: s2 :: s :: e) 3 o = some (s0 :: s1 :: s2 :: .v o :: e) := by simp [setS, h]
@[simp] theorem w3f {s0 s1 s2 : Sl} {o : O} : dMove 3 (s0 :: s1 :: s2 :: .v o :: e) = .ok o (s0 :: s1 :: s2 :: .no :: e) := Eq.trans rfl rfl
@[simp] theorem w3g {s0 s1 s2 : Sl} {s : Sl} {o q : O} {as : List Ag} {qs : List (Option O)} (h : s.cont = none) : wb (s0 :: s1 :: s2 :: s :: e) ((o, some 3) :: as) (some q :: qs) = wb (s0 :: s1 :: s2 :: s.put q :: e) as qs := by simp [wb, h, putS, modS]
@[simp] theorem w3h {s0 s1 s2 : Sl} {s : Sl} {t : Sl} : List.set (s0 :: s1 :: s2 :: s :: e) 3 t = s0 :: s1 :: s2 :: t :: e := Eq.trans rfl rfl
@[simp] theorem w4a {s0 s1 s2 s3 : Sl} {s : Sl} : slot (s0 :: s1 :: s2 :: s3 :: s :: e) 4 = s.cont := Eq.trans rfl rfl
@[simp] theorem w4b {s0 s1 s2 s3 : Sl} {s : Sl} {o : O} : putS (s0 :: s1 :: s2 :: s3 :: s :: e) 4 o = s0 :: s1 :: s2 :: s3 :: s.put o :: e := Eq.trans rfl rfl
@[simp] theorem w4c {s0 s1 s2 s3 : Sl} {s : Sl} : lentS (s0 :: s1 :: s2 :: s3 :: s :: e) 4 = s0 :: s1 :: s2 :: s3 :: s.lent :: e := Eq.trans rfl rfl
@[simp] theorem w4d {s0 s1 s2 s3 : Sl} {o : O} : setS (s0 :: s1 :: s2 :: s3 :: .no :: e) 4 o = some (s0 :: s1 :: s2 :: s3 :: .v o :: e) := Eq.trans rfl rfl
@[simp] theorem w4e {s0 s1 s2 s3 : Sl} {o x : O} : setS (s0 :: s1 :: s2 :: s3 :: .v x :: e) 4 o = some (s0 :: s1 :: s2 :: s3 :: .v o :: e) := Eq.trans rfl rfl
@[simp] theorem w4i {s0 s1 s2 s3 : Sl} {s : Sl} {o : O} (h : s.pinned = false) : setS (s0 :: s1 :: s2 :: s3 :: s :: e) 4 o = some (s0 :: s1 :: s2 :: s3 :: .v o :: e) := by simp [setS, h]
@[simp] theorem w4f {s0 s1 s2 s3 : Sl} {o : O} : dMove 4 (s0 :: s1 :: s2 :: s3 :: .v o :: e) = .ok o (s0 :: s1 :: s2 :: s3 :: .no :: e) := Eq.trans rfl rfl
@[simp] theorem w4g {s0 s1 s2 s3 : Sl} {s : Sl} {o q : O} {as : List Ag} {qs : List (Option O)} (h : s.cont = none) : wb (s0 :: s1 :: s2 :: s3 :: s :: e) ((o, some 4) :: as) (some q :: qs) = wb (s0 :: s1 :: s2 :: s3 :: s.put q :: e) as qs := by simp [wb, h, putS, modS]
@[simp] theorem w4h {s0 s1 s2 s3 : Sl} {s : Sl} {t : Sl} : List.set (s0 :: s1 :: s2 :: s3 :: s :: e) 4 t = s0 :: s1 :: s2 :: s3 :: t :: e := Eq.trans rfl rfl
@[simp] theorem w5a {s0 s1 s2 s3 s4 : Sl} {s : Sl} : slot (s0 :: s1 :: s2 :: s3 :: s4 :: s :: e) 5 = s.cont := Eq.trans rfl rfl
@[simp] theorem w5b {s0 s1 s2 s3 s4 : Sl} {s : Sl} {o : O} : putS (s0 :: s1 :: s2 :: s3 :: s4 :: s :: e) 5 o = s0 :: s1 :: s2 :: s3 :: s4 :: s.put o :: e := Eq.trans rfl rfl
@[simp] theorem w5c {s0 s1 s2 s3 s4 : Sl} {s : Sl} : lentS (s0 :: s1 :: s2 :: s3 :: s4 :: s :: e) 5 = s0 :: s1 :: s2 :: s3 :: s4 :: s.lent :: e := Eq.trans rfl rfl
@[simp] theorem w5d {s0 s1 s2 s3 s4 : Sl} {o : O} : setS (s0 :: s1 :: s2 :: s3 :: s4 :: .no :: e) 5 o = some (s0 :: s1 :: s2 :: s3 :: s4 :: .v o :: e) := Eq.trans rfl rfl
@[simp] theorem w5e {s0 s1 s2 s3 s4 : Sl} {o x : O} : setS (s0 :: s1 :: s2 :: s3 :: s4 :: .v x :: e) 5 o = some (s0 :: s1 :: s2 :: s3 :: s4 :: .v o :: e) := Eq.trans rfl rfl
@[simp] theorem w5i {s0 s1 s2 s3 s4 : Sl} {s : Sl} {o : O} (h : s.pinned = false) : setS (s0 :: s1 :: s2 :: s3 :: s4 :: s :: e) 5 o = some (s0 :: s1 :: s2 :: s3 :: s4 :: .v o :: e) := by simp [setS, h]
@[simp] theorem w5f {s0 s1 s2 s3 s4 : Sl} {o : O} : dMove 5 (s0 :: s1 :: s2 :: s3 :: s4 :: .v o :: e) = .ok o (s0 :: s1 :: s2 :: s3 :: s4 :: .no :: e) := Eq.trans rfl rfl
@[simp] theorem w5g {s0 s1 s2 s3 s4 : Sl} {s : Sl} {o q : O} {as : List Ag} {qs : List (Option O)} (h : s.cont = none) : wb (s0 :: s1 :: s2 :: s3 :: s4 :: s :: e) ((o, some 5) :: as) (some q :: qs) = wb (s0 :: s1 :: s2 :: s3 :: s4 :: s.put q :: e) as qs := by simp [wb, h, putS, modS]
@[simp] theorem w5h {s0 s1 s2 s3 s4 : Sl} {s : Sl} {t : Sl} : List.set (s0 :: s1 :: s2 :: s3 :: s4 :: s :: e) 5 t = s0 :: s1 :: s2 :: s3 :: s4 :: t :: e := Eq.trans rfl rfl
@[simp] theorem w6a {s0 s1 s2 s3 s4 s5 : Sl} {s : Sl} : slot (s0 :: s1 :: s2 :: s3 :: s4 :: s5 :: s :: e) 6 = s.cont := Eq.trans rfl rfl
@[simp] theorem w6b {s0 s1 s2 s3 s4 s5 : Sl} {s : Sl} {o : O} : putS (s0 :: s1 :: s2 :: s3 :: s4 :: s5 :: s :: e) 6 o = s0 :: s1 :: s2 :: s3 :: s4 :: s5 :: s.put o :: e := Eq.trans rfl rfl
@[simp] theorem w6c {s0 s1 s2 s3 s4 s5 : Sl} {s : Sl} : lentS (s0 :: s1 :: s2 :: s3 :: s4 :: s5 :: s :: e) 6 = s0 :: s1 :: s2 :: s3 :: s4 :: s5 :: s.lent :: e := Eq.trans rfl rfl
@[simp] theorem w6d {s0 s1 s2 s3 s4 s5 : Sl} {o : O} : setS (s0 :: s1 :: s2 :: s3 :: s4 :: s5 :: .no :: e) 6 o = some (s0 :: s1 :: s2 :: s3 :: s4 :: s5 :: .v o :: e) := Eq.trans rfl rfl
@[simp] theorem w6e {s0 s1 s2 s3 s4 s5 : Sl} {o x : O} : setS (s0 :: s1 :: s2 :: s3 :: s4 :: s5 :: .v x :: e) 6 o = some (s0 :: s1 :: s2 :: s3 :: s4 :: s5 :: .v o :: e) := Eq.trans rfl rfl
@[simp] theorem w6i {s0 s1 s2 s3 s4 s5 : Sl} {s : Sl} {o : O} (h : s.pinned = false) : setS (s0 :: s1 :: s2 :: s3 :: s4 :: s5 :: s :: e) 6 o = some (s0 :: s1 :: s2 :: s3 :: s4 :: s5 :: .v o :: e) := by simp [setS, h]
@[simp] theorem w6f {s0 s1 s2 s3 s4 s5 : Sl} {o : O} : dMove 6 (s0 :: s1 :: s2 :: s3 :: s4 :: s5 :: .v o :: e) = .ok o (s0 :: s1 :: s2 :: s3 :: s4 :: s5 :: .no :: e) := Eq.trans rfl rfl
@[simp] theorem w6g {s0 s1 s2 s3 s4 s5 : Sl} {s : Sl} {o q : O} {as : List Ag} {qs : List (Option O)} (h : s.cont = none) : wb (s0 :: s1 :: s2 :: s3 :: s4 :: s5 :: s :: e) ((o, some 6) :: as) (some q :: qs) = wb (s0 :: s1 :: s2 :: s3 :: s4 :: s5 :: s.put q :: e) as qs := by simp [wb, h, putS, modS]
@[simp] theorem w6h {s0 s1 s2 s3 s4 s5 : Sl} {s : Sl} {t : Sl} : List.set (s0 :: s1 :: s2 :: s3 :: s4 :: s5 :: s :: e) 6 t = s0 :: s1 :: s2 :: s3 :: s4 :: s5 :: t :: e := Eq.trans rfl rfl
@[simp] theorem w7a {s0 s1 s2 s3 s4 s5 s6 : Sl} {s : Sl} : slot (s0 :: s1 :: s2 :: s3 :: s4 :: s5 :: s6 :: s :: e) 7 = s.cont := Eq.trans rfl rfl
@[simp] theorem w7b {s0 s1 s2 s3 s4 s5 s6 : Sl} {s : Sl} {o : O} : putS (s0 :: s1 :: s2 :: s3 :: s4 :: s5 :: s6 :: s :: e) 7 o = s0 :: s1 :: s2 :: s3 :: s4 :: s5 :: s6 :: s.put o :: e := Eq.trans rfl rfl
@[simp] theorem w7c {s0 s1 s2 s3 s4 s5 s6 : Sl} {s : Sl} : lentS (s0 :: s1 :: s2 :: s3 :: s4 :: s5 :: s6 :: s :: e) 7 = s0 :: s1 :: s2 :: s3 :: s4 :: s5 :: s6 :: s.lent :: e := Eq.trans rfl rfl
@[simp] theorem w7d {s0 s1 s2 s3 s4 s5 s6 : Sl} {o : O} : setS (s0 :: s1 :: s2 :: s3 :: s4 :: s5 :: s6 :: .no :: e) 7 o = some (s0 :: s1 :: s2 :: s3 :: s4 :: s5 :: s6 :: .v o :: e) := Eq.trans rfl rfl
@[simp] theorem w7e {s0 s1 s2 s3 s4 s5 s6 : Sl} {o x : O} : setS (s0 :: s1 :: s2 :: s3 :: s4 :: s5 :: s6 :: .v x :: e) 7 o = some (s0 :: s1 :: s2 :: s3 :: s4 :: s5 :: s6 :: .v o :: e) := Eq.trans rfl rfl
@[simp] theorem w7i {s0 s1 s2 s3 s4 s5 s6 : Sl} {s : Sl} {o : O} (h : s.pinned = false) : setS (s0 :: s1 :: s2 :: s3 :: s4 :: s5 :: s6 :: s :: e) 7 o = some (s0 :: s1 :: s2 :: s3 :: s4 :: s5 :: s6 :: .v o :: e) := by simp [setS, h]
@[simp] theorem w7f {s0 s1 s2 s3 s4 s5 s6 : Sl} {o : O} : dMove 7 (s0 :: s1 :: s2 :: s3 :: s4 :: s5 :: s6 :: .v o :: e) = .ok o (s0 :: s1 :: s2 :: s3 :: s4 :: s5 :: s6 :: .no :: e) := Eq.trans rfl rfl
@[simp] theorem w7g {s0 s1 s2 s3 s4 s5 s6 : Sl} {s : Sl} {o q : O} {as : List Ag} {qs : List (Option O)} (h : s.cont = none) : wb (s0 :: s1 :: s2 :: s3 :: s4 :: s5 :: s6 :: s :: e) ((o, some 7) :: as) (some q :: qs) = wb (s0 :: s1 :: s2 :: s3 :: s4 :: s5 :: s6 :: s.put q :: e) as qs := by simp [wb, h, putS, modS]
@[simp] theorem w7h {s0 s1 s2 s3 s4 s5 s6 : Sl} {s : Sl} {t : Sl} : List.set (s0 :: s1 :: s2 :: s3 :: s4 :: s5 :: s6 :: s :: e) 7 t = s0 :: s1 :: s2 :: s3 :: s4 :: s5 :: s6 :: t :: e := Eq.trans rfl rfl
@[simp] theorem w8a {s0 s1 s2 s3 s4 s5 s6 s7 : Sl} {s : Sl} : slot (s0 :: s1 :: s2 :: s3 :: s4 :: s5 :: s6 :: s7 :: s :: e) 8 = s.cont := Eq.trans rfl rfl
@[simp] theorem w8b {s0 s1 s2 s3 s4 s5 s6 s7 : Sl} {s : Sl} {o : O} : putS (s0 :: s1 :: s2 :: s3 :: s4 :: s5 :: s6 :: s7 :: s :: e) 8 o = s0 :: s1 :: s2 :: s3 :: s4 :: s5 :: s6 :: s7 :: s.put o :: e := Eq.trans rfl rfl
@[simp] theorem w8c {s0 s1 s2 s3 s4 s5 s6 s7 : Sl} {s : Sl} : lentS (s0 :: s1 :: s2 :: s3 :: s4 :: s5 :: s6 :: s7 :: s :: e) 8 = s0 :: s1 :: s2 :: s3 :: s4 :: s5 :: s6 :: s7 :: s.lent :: e := Eq.trans rfl rfl
@[simp] theorem w8d {s0 s1 s2 s3 s4 s5 s6 s7 : Sl} {o : O} : setS (s0 :: s1 :: s2 :: s3 :: s4 :: s5 :: s6 :: s7 :: .no :: e) 8 o = some (s0 :: s1 :: s2 :: s3 :: s4 :: s5 :: s6 :: s7 :: .v o :: e) := Eq.trans rfl rfl
@[simp] theorem w8e {s0 s1 s2 s3 s4 s5 s6 s7 : Sl} {o x : O} : setS (s0 :: s1 :: s2 :: s3 :: s4 :: s5 :: s6 :: s7 :: .v x :: e) 8 o = some (s0 :: s1 :: s2 :: s3 :: s4 :: s5 :: s6 :: s7 :: .v o :: e) := Eq.trans rfl rfl
@[simp] theorem w8i {s0 s1 s2 s3 s4 s5 s6 s7 : Sl} {s : Sl} {o : O} (h : s.pinned = false) : setS (s0 :: s1 :: s2 :: s3 :: s4 :: s5 :: s6 :: s7 :: s :: e) 8 o = some (s0 :: s1 :: s2 :: s3 :: s4 :: s5 :: s6 :: s7 :: .v o :: e) := by simp [setS, h]
@[simp] theorem w8f {s0 s1 s2 s3 s4 s5 s6 s7 : Sl} {o : O} : dMove 8 (s0 :: s1 :: s2 :: s3 :: s4 :: s5 :: s6 :: s7 :: .v o :: e) = .ok o (s0 :: s1 :: s2 :: s3 :: s4 :: s5 :: s6 :: s7 :: .no :: e) := Eq.trans rfl rfl
@[simp] theorem w8g {s0 s1 s2 s3 s4 s5 s6 s7 : Sl} {s : Sl} {o q : O} {as : List Ag} {qs : List (Option O)} (h : s.cont = none) : wb (s0 :: s1 :: s2 :: s3 :: s4 :: s5 :: s6 :: s7 :: s :: e) ((o, some 8) :: as) (some q :: qs) = wb (s0 :: s1 :: s2 :: s3 :: s4 :: s5 :: s6 :: s7 :: s.put q :: e) as qs := by simp [wb, h, putS, modS]
@[simp] theorem w8h {s0 s1 s2 s3 s4 s5 s6 s7 : Sl} {s : Sl} {t : Sl} : List.set (s0 :: s1 :: s2 :: s3 :: s4 :: s5 :: s6 :: s7 :: s :: e) 8 t = s0 :: s1 :: s2 :: s3 :: s4 :: s5 :: s6 :: s7 :: t :: e := Eq.trans rfl rfl
@[simp] theorem w9a {s0 s1 s2 s3 s4 s5 s6 s7 s8 : Sl} {s : Sl} : slot (s0 :: s1 :: s2 :: s3 :: s4 :: s5 :: s6 :: s7 :: s8 :: s :: e) 9 = s.cont := Eq.trans rfl rfl
@[simp] theorem w9b {s0 s1 s2 s3 s4 s5 s6 s7 s8 : Sl} {s : Sl} {o : O} : putS (s0 :: s1 :: s2 :: s3 :: s4 :: s5 :: s6 :: s7 :: s8 :: s :: e) 9 o = s0 :: s1 :: s2 :: s3 :: s4 :: s5 :: s6 :: s7 :: s8 :: s.put o :: e := Eq.trans rfl rfl
@[simp] theorem w9c {s0 s1 s2 s3 s4 s5 s6 s7 s8 : Sl} {s : Sl} : lentS (s0 :: s1 :: s2 :: s3 :: s4 :: s5 :: s6 :: s7 :: s8 :: s :: e) 9 = s0 :: s1 :: s2 :: s3 :: s4 :: s5 :: s6 :: s7 :: s8 :: s.lent :: e := Eq.trans rfl rfl
@[simp] theorem w9d {s0 s1 s2 s3 s4 s5 s6 s7 s8 : Sl} {o : O} : setS (s0 :: s1 :: s2 :: s3 :: s4 :: s5 :: s6 :: s7 :: s8 :: .no :: e) 9 o = some (s0 :: s1 :: s2 :: s3 :: s4 :: s5 :: s6 :: s7 :: s8 :: .v o :: e) := Eq.trans rfl rfl
@[simp] theorem w9e {s0 s1 s2 s3 s4 s5 s6 s7 s8 : Sl} {o x : O} : setS (s0 :: s1 :: s2 :: s3 :: s4 :: s5 :: s6 :: s7 :: s8 :: .v x :: e) 9 o = some (s0 :: s1 :: s2 :: s3 :: s4 :: s5 :: s6 :: s7 :: s8 :: .v o :: e) := Eq.trans rfl rfl
@[simp] theorem w9i {s0 s1 s2 s3 s4 s5 s6 s7 s8 : Sl} {s : Sl} {o : O} (h : s.pinned = false) : setS (s0 :: s1 :: s2 :: s3 :: s4 :: s5 :: s6 :: s7 :: s8 :: s :: e) 9 o = some (s0 :: s1 :: s2 :: s3 :: s4 :: s5 :: s6 :: s7 :: s8 :: .v o :: e) := by simp [setS, h]
@[simp] theorem w9f {s0 s1 s2 s3 s4 s5 s6 s7 s8 : Sl} {o : O} : dMove 9 (s0 :: s1 :: s2 :: s3 :: s4 :: s5 :: s6 :: s7 :: s8 :: .v o :: e) = .ok o (s0 :: s1 :: s2 :: s3 :: s4 :: s5 :: s6 :: s7 :: s8 :: .no :: e) := Eq.trans rfl rfl
@[simp] theorem w9g {s0 s1 s2 s3 s4 s5 s6 s7 s8 : Sl} {s : Sl} {o q : O} {as : List Ag} {qs : List (Option O)} (h : s.cont = none) : wb (s0 :: s1 :: s2 :: s3 :: s4 :: s5 :: s6 :: s7 :: s8 :: s :: e) ((o, some 9) :: as) (some q :: qs) = wb (s0 :: s1 :: s2 :: s3 :: s4 :: s5 :: s6 :: s7 :: s8 :: s.put q :: e) as qs := by simp [wb, h, putS, modS]
@[simp] theorem w9h {s0 s1 s2 s3 s4 s5 s6 s7 s8 : Sl} {s : Sl} {t : Sl} : List.set (s0 :: s1 :: s2 :: s3 :: s4 :: s5 :: s6 :: s7 :: s8 :: s :: e) 9 t = s0 :: s1 :: s2 :: s3 :: s4 :: s5 :: s6 :: s7 :: s8 :: t :: e := Eq.trans rfl rfl
@[simp] theorem w10a {s0 s1 s2 s3 s4 s5 s6 s7 s8 s9 : Sl} {s : Sl} : slot (s0 :: s1 :: s2 :: s3 :: s4 :: s5 :: s6 :: s7 :: s8 :: s9 :: s :: e) 10 = s.cont := Eq.trans rfl rfl
@[simp] theorem w10b {s0 s1 s2 s3 s4 s5 s6 s7 s8 s9 : Sl} {s : Sl} {o : O} : putS (s0 :: s1 :: s2 :: s3 :: s4 :: s5 :: s6 :: s7 :: s8 :: s9 :: s :: e) 10 o = s0 :: s1 :: s2 :: s3 :: s4 :: s5 :: s6 :: s7 :: s8 :: s9 :: s.put o :: e := Eq.trans rfl rfl
@[simp] theorem w10c {s0 s1 s2 s3 s4 s5 s6 s7 s8 s9 : Sl} {s : Sl} : lentS (s0 :: s1 :: s2 :: s3 :: s4 :: s5 :: s6 :: s7 :: s8 :: s9 :: s :: e) 10 = s0 :: s1 :: s2 :: s3 :: s4 :: s5 :: s6 :: s7 :: s8 :: s9 :: s.lent :: e := Eq.trans rfl rfl
@[simp] theorem w10d {s0 s1 s2 s3 s4 s5 s6 s7 s8 s9 : Sl} {o : O} : setS (s0 :: s1 :: s2 :: s3 :: s4 :: s5 :: s6 :: s7 :: s8 :: s9 :: .no :: e) 10 o = some (s0 :: s1 :: s2 :: s3 :: s4 :: s5 :: s6 :: s7 :: s8 :: s9 :: .v o :: e) := Eq.trans rfl rfl
@[simp] theorem w10e {s0 s1 s2 s3 s4 s5 s6 s7 s8 s9 : Sl} {o x : O} : setS (s0 :: s1 :: s2 :: s3 :: s4 :: s5 :: s6 :: s7 :: s8 :: s9 :: .v x :: e) 10 o = some (s0 :: s1 :: s2 :: s3 :: s4 :: s5 :: s6 :: s7 :: s8 :: s9 :: .v o :: e) := Eq.trans rfl rfl
@[simp] theorem w10i {s0 s1 s2 s3 s4 s5 s6 s7 s8 s9 : Sl} {s : Sl} {o : O} (h : s.pinned = false) : setS (s0 :: s1 :: s2 :: s3 :: s4 :: s5 :: s6 :: s7 :: s8 :: s9 :: s :: e) 10 o = some (s0 :: s1 :: s2 :: s3 :: s4 :: s5 :: s6 :: s7 :: s8 :: s9 :: .v o :: e) := by simp [setS, h]
@[simp] theorem w10f {s0 s1 s2 s3 s4 s5 s6 s7 s8 s9 : Sl} {o : O} : dMove 10 (s0 :: s1 :: s2 :: s3 :: s4 :: s5 :: s6 :: s7 :: s8 :: s9 :: .v o :: e) = .ok o (s0 :: s1 :: s2 :: s3 :: s4 :: s5 :: s6 :: s7 :: s8 :: s9 :: .no :: e) := Eq.trans rfl rfl
@[simp] theorem w10g {s0 s1 s2 s3 s4 s5 s6 s7 s8 s9 : Sl} {s : Sl} {o q : O} {as : List Ag} {qs : List (Option O)} (h : s.cont = none) : wb (s0 :: s1 :: s2 :: s3 :: s4 :: s5 :: s6 :: s7 :: s8 :: s9 :: s :: e) ((o, some 10) :: as) (some q :: qs) = wb (s0 :: s1 :: s2 :: s3 :: s4 :: s5 :: s6 :: s7 :: s8 :: s9 :: s.put q :: e) as qs := by simp [wb, h, putS, modS]
@[simp] theorem w10h {s0 s1 s2 s3 s4 s5 s6 s7 s8 s9 : Sl} {s : Sl} {t : Sl} : List.set (s0 :: s1 :: s2 :: s3 :: s4 :: s5 :: s6 :: s7 :: s8 :: s9 :: s :: e) 10 t = s0 :: s1 :: s2 :: s3 :: s4 :: s5 :: s6 :: s7 :: s8 :: s9 :: t :: e := Eq.trans rfl rfl
@[simp] theorem w11a {s0 s1 s2 s3 s4 s5 s6 s7 s8 s9 s10 : Sl} {s : Sl} : slot (s0 :: s1 :: s2 :: s3 :: s4 :: s5 :: s6 :: s7 :: s8 :: s9 :: s10 :: s :: e) 11 = s.cont := Eq.trans rfl rfl
@[simp] theorem w11b {s0 s1 s2 s3 s4 s5 s6 s7 s8 s9 s10 : Sl} {s : Sl} {o : O} : putS (s0 :: s1 :: s2 :: s3 :: s4 :: s5 :: s6 :: s7 :: s8 :: s9 :: s10 :: s :: e) 11 o = s0 :: s1 :: s2 :: s3 :: s4 :: s5 :: s6 :: s7 :: s8 :: s9 :: s10 :: s.put o :: e := Eq.trans rfl rfl
@[simp] theorem w11c {s0 s1 s2 s3 s4 s5 s6 s7 s8 s9 s10 : Sl} {s : Sl} : lentS (s0 :: s1 :: s2 :: s3 :: s4 :: s5 :: s6 :: s7 :: s8 :: s9 :: s10 :: s :: e) 11 = s0 :: s1 :: s2 :: s3 :: s4 :: s5 :: s6 :: s7 :: s8 :: s9 :: s10 :: s.lent :: e := Eq.trans rfl rfl
@[simp] theorem w11d {s0 s1 s2 s3 s4 s5 s6 s7 s8 s9 s10 : Sl} {o : O} : setS (s0 :: s1 :: s2 :: s3 :: s4 :: s5 :: s6 :: s7 :: s8 :: s9 :: s10 :: .no :: e) 11 o = some (s0 :: s1 :: s2 :: s3 :: s4 :: s5 :: s6 :: s7 :: s8 :: s9 :: s10 :: .v o :: e) := Eq.trans rfl rfl
@[simp] theorem w11e {s0 s1 s2 s3 s4 s5 s6 s7 s8 s9 s10 : Sl} {o x : O} : setS (s0 :: s1 :: s2 :: s3 :: s4 :: s5 :: s6 :: s7 :: s8 :: s9 :: s10 :: .v x :: e) 11 o = some (s0 :: s1 :: s2 :: s3 :: s4 :: s5 :: s6 :: s7 :: s8 :: s9 :: s10 :: .v o :: e) := Eq.trans rfl rfl
@[simp] theorem w11i {s0 s1 s2 s3 s4 s5 s6 s7 s8 s9 s10 : Sl} {s : Sl} {o : O} (h : s.pinned = false) : setS (s0 :: s1 :: s2 :: s3 :: s4 :: s5 :: s6 :: s7 :: s8 :: s9 :: s10 :: s :: e) 11 o = some (s0 :: s1 :: s2 :: s3 :: s4 :: s5 :: s6 :: s7 :: s8 :: s9 :: s10 :: .v o :: e) := by simp [setS, h]
@[simp] theorem w11f {s0 s1 s2 s3 s4 s5 s6 s7 s8 s9 s10 : Sl} {o : O} : dMove 11 (s0 :: s1 :: s2 :: s3 :: s4 :: s5 :: s6 :: s7 :: s8 :: s9 :: s10 :: .v o :: e) = .ok o (s0 :: s1 :: s2 :: s3 :: s4 :: s5 :: s6 :: s7 :: s8 :: s9 :: s10 :: .no :: e) := Eq.trans rfl rfl
@[simp] theorem w11g {s0 s1 s2 s3 s4 s5 s6 s7 s8 s9 s10 : Sl} {s : Sl} {o q : O} {as : List Ag} {qs : List (Option O)} (h : s.cont = none) : wb (s0 :: s1 :: s2 :: s3 :: s4 :: s5 :: s6 :: s7 :: s8 :: s9 :: s10 :: s :: e) ((o, some 11) :: as) (some q :: qs) = wb (s0 :: s1 :: s2 :: s3 :: s4 :: s5 :: s6 :: s7 :: s8 :: s9 :: s10 :: s.put q :: e) as qs := by simp [wb, h, putS, modS]
@[simp] theorem w11h {s0 s1 s2 s3 s4 s5 s6 s7 s8 s9 s10 : Sl} {s : Sl} {t : Sl} : List.set (s0 :: s1 :: s2 :: s3 :: s4 :: s5 :: s6 :: s7 :: s8 :: s9 :: s10 :: s :: e) 11 t = s0 :: s1 :: s2 :: s3 :: s4 :: s5 :: s6 :: s7 :: s8 :: s9 :: s10 :: t :: e := Eq.trans rfl rfl
@[simp] theorem w12a {s0 s1 s2 s3 s4 s5 s6 s7 s8 s9 s10 s11 : Sl} {s : Sl} : slot (s0 :: s1 :: s2 :: s3 :: s4 :: s5 :: s6 :: s7 :: s8 :: s9 :: s10 :: s11 :: s :: e) 12 = s.cont := Eq.trans rfl rfl
@[simp] theorem w12b {s0 s1 s2 s3 s4 s5 s6 s7 s8 s9 s10 s11 : Sl} {s : Sl} {o : O} : putS (s0 :: s1 :: s2 :: s3 :: s4 :: s5 :: s6 :: s7 :: s8 :: s9 :: s10 :: s11 :: s :: e) 12 o = s0 :: s1 :: s2 :: s3 :: s4 :: s5 :: s6 :: s7 :: s8 :: s9 :: s10 :: s11 :: s.put o :: e := Eq.trans rfl rfl
@[simp] theorem w12c {s0 s1 s2 s3 s4 s5 s6 s7 s8 s9 s10 s11 : Sl} {s : Sl} : lentS (s0 :: s1 :: s2 :: s3 :: s4 :: s5 :: s6 :: s7 :: s8 :: s9 :: s10 :: s11 :: s :: e) 12 = s0 :: s1 :: s2 :: s3 :: s4 :: s5 :: s6 :: s7 :: s8 :: s9 :: s10 :: s11 :: s.lent :: e := Eq.trans rfl rfl
@[simp] theorem w12d {s0 s1 s2 s3 s4 s5 s6 s7 s8 s9 s10 s11 : Sl} {o : O} : setS (s0 :: s1 :: s2 :: s3 :: s4 :: s5 :: s6 :: s7 :: s8 :: s9 :: s10 :: s11 :: .no :: e) 12 o = some (s0 :: s1 :: s2 :: s3 :: s4 :: s5 :: s6 :: s7 :: s8 :: s9 :: s10 :: s11 :: .v o :: e) := Eq.trans rfl rfl
@[simp] theorem w12e {s0 s1 s2 s3 s4 s5 s6 s7 s8 s9 s10 s11 : Sl} {o x : O} : setS (s0 :: s1 :: s2 :: s3 :: s4 :: s5 :: s6 :: s7 :: s8 :: s9 :: s10 :: s11 :: .v x :: e) 12 o = some (s0 :: s1 :: s2 :: s3 :: s4 :: s5 :: s6 :: s7 :: s8 :: s9 :: s10 :: s11 :: .v o :: e) := Eq.trans rfl rfl
@[simp] theorem w12i {s0 s1 s2 s3 s4 s5 s6 s7 s8 s9 s10 s11 : Sl} {s : Sl} {o : O} (h : s.pinned = false) : setS (s0 :: s1 :: s2 :: s3 :: s4 :: s5 :: s6 :: s7 :: s8 :: s9 :: s10 :: s11 :: s :: e) 12 o = some (s0 :: s1 :: s2 :: s3 :: s4 :: s5 :: s6 :: s7 :: s8 :: s9 :: s10 :: s11 :: .v o :: e) := by simp [setS, h]
@[simp] theorem w12f {s0 s1 s2 s3 s4 s5 s6 s7 s8 s9 s10 s11 : Sl} {o : O} : dMove 12 (s0 :: s1 :: s2 :: s3 :: s4 :: s5 :: s6 :: s7 :: s8 :: s9 :: s10 :: s11 :: .v o :: e) = .ok o (s0 :: s1 :: s2 :: s3 :: s4 :: s5 :: s6 :: s7 :: s8 :: s9 :: s10 :: s11 :: .no :: e) := Eq.trans rfl rfl
@[simp] theorem w12g {s0 s1 s2 s3 s4 s5 s6 s7 s8 s9 s10 s11 : Sl} {s : Sl} {o q : O} {as : List Ag} {qs : List (Option O)} (h : s.cont = none) : wb (s0 :: s1 :: s2 :: s3 :: s4 :: s5 :: s6 :: s7 :: s8 :: s9 :: s10 :: s11 :: s :: e) ((o, some 12) :: as) (some q :: qs) = wb (s0 :: s1 :: s2 :: s3 :: s4 :: s5 :: s6 :: s7 :: s8 :: s9 :: s10 :: s11 :: s.put q :: e) as qs := by simp [wb, h, putS, modS]
@[simp] theorem w12h {s0 s1 s2 s3 s4 s5 s6 s7 s8 s9 s10 s11 : Sl} {s : Sl} {t : Sl} : List.set (s0 :: s1 :: s2 :: s3 :: s4 :: s5 :: s6 :: s7 :: s8 :: s9 :: s10 :: s11 :: s :: e) 12 t = s0 :: s1 :: s2 :: s3 :: s4 :: s5 :: s6 :: s7 :: s8 :: s9 :: s10 :: s11 :: t :: e := Eq.trans rfl rfl
@[simp] theorem w13a {s0 s1 s2 s3 s4 s5 s6 s7 s8 s9 s10 s11 s12 : Sl} {s : Sl} : slot (s0 :: s1 :: s2 :: s3 :: s4 :: s5 :: s6 :: s7 :: s8 :: s9 :: s10 :: s11 :: s12 :: s :: e) 13 = s.cont := Eq.trans rfl rfl
@[simp] theorem w13b {s0 s1 s2 s3 s4 s5 s6 s7 s8 s9 s10 s11 s12 : Sl} {s : Sl} {o : O} : putS (s0 :: s1 :: s2 :: s3 :: s4 :: s5 :: s6 :: s7 :: s8 :: s9 :: s10 :: s11 :: s12 :: s :: e) 13 o = s0 :: s1 :: s2 :: s3 :: s4 :: s5 :: s6 :: s7 :: s8 :: s9 :: s10 :: s11 :: s12 :: s.put o :: e := Eq.trans rfl rfl
@[simp] theorem w13c {s0 s1 s2 s3 s4 s5 s6 s7 s8 s9 s10 s11 s12 : Sl} {s : Sl} : lentS (s0 :: s1 :: s2 :: s3 :: s4 :: s5 :: s6 :: s7 :: s8 :: s9 :: s10 :: s11 :: s12 :: s :: e) 13 = s0 :: s1 :: s2 :: s3 :: s4 :: s5 :: s6 :: s7 :: s8 :: s9 :: s10 :: s11 :: s12 :: s.lent :: e := Eq.trans rfl rfl
@[simp] theorem w13d {s0 s1 s2 s3 s4 s5 s6 s7 s8 s9 s10 s11 s12 : Sl} {o : O} : setS (s0 :: s1 :: s2 :: s3 :: s4 :: s5 :: s6 :: s7 :: s8 :: s9 :: s10 :: s11 :: s12 :: .no :: e) 13 o = some (s0 :: s1 :: s2 :: s3 :: s4 :: s5 :: s6 :: s7 :: s8 :: s9 :: s10 :: s11 :: s12 :: .v o :: e) := Eq.trans rfl rfl
@[simp] theorem w13e {s0 s1 s2 s3 s4 s5 s6 s7 s8 s9 s10 s11 s12 : Sl} {o x : O} : setS (s0 :: s1 :: s2 :: s3 :: s4 :: s5 :: s6 :: s7 :: s8 :: s9 :: s10 :: s11 :: s12 :: .v x :: e) 13 o = some (s0 :: s1 :: s2 :: s3 :: s4 :: s5 :: s6 :: s7 :: s8 :: s9 :: s10 :: s11 :: s12 :: .v o :: e) := Eq.trans rfl rfl
@[simp] theorem w13i {s0 s1 s2 s3 s4 s5 s6 s7 s8 s9 s10 s11 s12 : Sl} {s : Sl} {o : O} (h : s.pinned = false) : setS (s0 :: s1 :: s2 :: s3 :: s4 :: s5 :: s6 :: s7 :: s8 :: s9 :: s10 :: s11 :: s12 :: s :: e) 13 o = some (s0 :: s1 :: s2 :: s3 :: s4 :: s5 :: s6 :: s7 :: s8 :: s9 :: s10 :: s11 :: s12 :: .v o :: e) := by simp [setS, h]
@[simp] theorem w13f {s0 s1 s2 s3 s4 s5 s6 s7 s8 s9 s10 s11 s12 : Sl} {o : O} : dMove 13 (s0 :: s1 :: s2 :: s3 :: s4 :: s5 :: s6 :: s7 :: s8 :: s9 :: s10 :: s11 :: s12 :: .v o :: e) = .ok o (s0 :: s1 :: s2 :: s3 :: s4 :: s5 :: s6 :: s7 :: s8 :: s9 :: s10 :: s11 :: s12 :: .no :: e) := Eq.trans rfl rfl
@[simp] theorem w13g {s0 s1 s2 s3 s4 s5 s6 s7 s8 s9 s10 s11 s12 : Sl} {s : Sl} {o q : O} {as : List Ag} {qs : List (Option O)} (h : s.cont = none) : wb (s0 :: s1 :: s2 :: s3 :: s4 :: s5 :: s6 :: s7 :: s8 :: s9 :: s10 :: s11 :: s12 :: s :: e) ((o, some 13) :: as) (some q :: qs) = wb (s0 :: s1 :: s2 :: s3 :: s4 :: s5 :: s6 :: s7 :: s8 :: s9 :: s10 :: s11 :: s12 :: s.put q :: e) as qs := by simp [wb, h, putS, modS]
@[simp] theorem w13h {s0 s1 s2 s3 s4 s5 s6 s7 s8 s9 s10 s11 s12 : Sl} {s : Sl} {t : Sl} : List.set (s0 :: s1 :: s2 :: s3 :: s4 :: s5 :: s6 :: s7 :: s8 :: s9 :: s10 :: s11 :: s12 :: s :: e) 13 t = s0 :: s1 :: s2 :: s3 :: s4 :: s5 :: s6 :: s7 :: s8 :: s9 :: s10 :: s11 :: s12 :: t :: e := Eq.trans rfl rfl
@[simp] theorem w14a {s0 s1 s2 s3 s4 s5 s6 s7 s8 s9 s10 s11 s12 s13 : Sl} {s : Sl} : slot (s0 :: s1 :: s2 :: s3 :: s4 :: s5 :: s6 :: s7 :: s8 :: s9 :: s10 :: s11 :: s12 :: s13 :: s :: e) 14 = s.cont := Eq.trans rfl rfl
@[simp] theorem w14b {s0 s1 s2 s3 s4 s5 s6 s7 s8 s9 s10 s11 s12 s13 : Sl} {s : Sl} {o : O} : putS (s0 :: s1 :: s2 :: s3 :: s4 :: s5 :: s6 :: s7 :: s8 :: s9 :: s10 :: s11 :: s12 :: s13 :: s :: e) 14 o = s0 :: s1 :: s2 :: s3 :: s4 :: s5 :: s6 :: s7 :: s8 :: s9 :: s10 :: s11 :: s12 :: s13 :: s.put o :: e := Eq.trans rfl rfl
@[simp] theorem w14c {s0 s1 s2 s3 s4 s5 s6 s7 s8 s9 s10 s11 s12 s13 : Sl} {s : Sl} : lentS (s0 :: s1 :: s2 :: s3 :: s4 :: s5 :: s6 :: s7 :: s8 :: s9 :: s10 :: s11 :: s12 :: s13 :: s :: e) 14 = s0 :: s1 :: s2 :: s3 :: s4 :: s5 :: s6 :: s7 :: s8 :: s9 :: s10 :: s11 :: s12 :: s13 :: s.lent :: e := Eq.trans rfl rfl
@[simp] theorem w14d {s0 s1 s2 s3 s4 s5 s6 s7 s8 s9 s10 s11 s12 s13 : Sl} {o : O} : setS (s0 :: s1 :: s2 :: s3 :: s4 :: s5 :: s6 :: s7 :: s8 :: s9 :: s10 :: s11 :: s12 :: s13 :: .no :: e) 14 o = some (s0 :: s1 :: s2 :: s3 :: s4 :: s5 :: s6 :: s7 :: s8 :: s9 :: s10 :: s11 :: s12 :: s13 :: .v o :: e) := Eq.trans rfl rfl
@[simp] theorem w14e {s0 s1 s2 s3 s4 s5 s6 s7 s8 s9 s10 s11 s12 s13 : Sl} {o x : O} : setS (s0 :: s1 :: s2 :: s3 :: s4 :: s5 :: s6 :: s7 :: s8 :: s9 :: s10 :: s11 :: s12 :: s13 :: .v x :: e) 14 o = some (s0 :: s1 :: s2 :: s3 :: s4 :: s5 :: s6 :: s7 :: s8 :: s9 :: s10 :: s11 :: s12 :: s13 :: .v o :: e) := Eq.trans rfl rfl
@[simp] theorem w14i {s0 s1 s2 s3 s4 s5 s6 s7 s8 s9 s10 s11 s12 s13 : Sl} {s : Sl} {o : O} (h : s.pinned = false) : setS (s0 :: s1 :: s2 :: s3 :: s4 :: s5 :: s6 :: s7 :: s8 :: s9 :: s10 :: s11 :: s12 :: s13 :: s :: e) 14 o = some (s0 :: s1 :: s2 :: s3 :: s4 :: s5 :: s6 :: s7 :: s8 :: s9 :: s10 :: s11 :: s12 :: s13 :: .v o :: e) := by simp [setS, h]
@[simp] theorem w14f {s0 s1 s2 s3 s4 s5 s6 s7 s8 s9 s10 s11 s12 s13 : Sl} {o : O} : dMove 14 (s0 :: s1 :: s2 :: s3 :: s4 :: s5 :: s6 :: s7 :: s8 :: s9 :: s10 :: s11 :: s12 :: s13 :: .v o :: e) = .ok o (s0 :: s1 :: s2 :: s3 :: s4 :: s5 :: s6 :: s7 :: s8 :: s9 :: s10 :: s11 :: s12 :: s13 :: .no :: e) := Eq.trans rfl rfl
@[simp] theorem w14g {s0 s1 s2 s3 s4 s5 s6 s7 s8 s9 s10 s11 s12 s13 : Sl} {s : Sl} {o q : O} {as : List Ag} {qs : List (Option O)} (h : s.cont = none) : wb (s0 :: s1 :: s2 :: s3 :: s4 :: s5 :: s6 :: s7 :: s8 :: s9 :: s10 :: s11 :: s12 :: s13 :: s :: e) ((o, some 14) :: as) (some q :: qs) = wb (s0 :: s1 :: s2 :: s3 :: s4 :: s5 :: s6 :: s7 :: s8 :: s9 :: s10 :: s11 :: s12 :: s13 :: s.put q :: e) as qs := by simp [wb, h, putS, modS]
@[simp] theorem w14h {s0 s1 s2 s3 s4 s5 s6 s7 s8 s9 s10 s11 s12 s13 : Sl} {s : Sl} {t : Sl} : List.set (s0 :: s1 :: s2 :: s3 :: s4 :: s5 :: s6 :: s7 :: s8 :: s9 :: s10 :: s11 :: s12 :: s13 :: s :: e) 14 t = s0 :: s1 :: s2 :: s3 :: s4 :: s5 :: s6 :: s7 :: s8 :: s9 :: s10 :: s11 :: s12 :: s13 :: t :: e := Eq.trans rfl rfl
@[simp] theorem w15a {s0 s1 s2 s3 s4 s5 s6 s7 s8 s9 s10 s11 s12 s13 s14 : Sl} {s : Sl} : slot (s0 :: s1 :: s2 :: s3 :: s4 :: s5 :: s6 :: s7 :: s8 :: s9 :: s10 :: s11 :: s12 :: s13 :: s14 :: s :: e) 15 = s.cont := Eq.trans rfl rfl
@[simp] theorem w15b {s0 s1 s2 s3 s4 s5 s6 s7 s8 s9 s10 s11 s12 s13 s14 : Sl} {s : Sl} {o : O} : putS (s0 :: s1 :: s2 :: s3 :: s4 :: s5 :: s6 :: s7 :: s8 :: s9 :: s10 :: s11 :: s12 :: s13 :: s14 :: s :: e) 15 o = s0 :: s1 :: s2 :: s3 :: s4 :: s5 :: s6 :: s7 :: s8 :: s9 :: s10 :: s11 :: s12 :: s13 :: s14 :: s.put o :: e := Eq.trans rfl rfl
@[simp] theorem w15c {s0 s1 s2 s3 s4 s5 s6 s7 s8 s9 s10 s11 s12 s13 s14 : Sl} {s : Sl} : lentS (s0 :: s1 :: s2 :: s3 :: s4 :: s5 :: s6 :: s7 :: s8 :: s9 :: s10 :: s11 :: s12 :: s13 :: s14 :: s :: e) 15 = s0 :: s1 :: s2 :: s3 :: s4 :: s5 :: s6 :: s7 :: s8 :: s9 :: s10 :: s11 :: s12 :: s13 :: s14 :: s.lent :: e := Eq.trans rfl rfl
@[simp] theorem w15d {s0 s1 s2 s3 s4 s5 s6 s7 s8 s9 s10 s11 s12 s13 s14 : Sl} {o : O} : setS (s0 :: s1 :: s2 :: s3 :: s4 :: s5 :: s6 :: s7 :: s8 :: s9 :: s10 :: s11 :: s12 :: s13 :: s14 :: .no :: e) 15 o = some (s0 :: s1 :: s2 :: s3 :: s4 :: s5 :: s6 :: s7 :: s8 :: s9 :: s10 :: s11 :: s12 :: s13 :: s14 :: .v o :: e) := Eq.trans rfl rfl
@[simp] theorem w15e {s0 s1 s2 s3 s4 s5 s6 s7 s8 s9 s10 s11 s12 s13 s14 : Sl} {o x : O} : setS (s0 :: s1 :: s2 :: s3 :: s4 :: s5 :: s6 :: s7 :: s8 :: s9 :: s10 :: s11 :: s12 :: s13 :: s14 :: .v x :: e) 15 o = some (s0 :: s1 :: s2 :: s3 :: s4 :: s5 :: s6 :: s7 :: s8 :: s9 :: s10 :: s11 :: s12 :: s13 :: s14 :: .v o :: e) := Eq.trans rfl rfl
@[simp] theorem w15i {s0 s1 s2 s3 s4 s5 s6 s7 s8 s9 s10 s11 s12 s13 s14 : Sl} {s : Sl} {o : O} (h : s.pinned = false) : setS (s0 :: s1 :: s2 :: s3 :: s4 :: s5 :: s6 :: s7 :: s8 :: s9 :: s10 :: s11 :: s12 :: s13 :: s14 :: s :: e) 15 o = some (s0 :: s1 :: s2 :: s3 :: s4 :: s5 :: s6 :: s7 :: s8 :: s9 :: s10 :: s11 :: s12 :: s13 :: s14 :: .v o :: e) := by simp [setS, h]
@[simp] theorem w15f {s0 s1 s2 s3 s4 s5 s6 s7 s8 s9 s10 s11 s12 s13 s14 : Sl} {o : O} : dMove 15 (s0 :: s1 :: s2 :: s3 :: s4 :: s5 :: s6 :: s7 :: s8 :: s9 :: s10 :: s11 :: s12 :: s13 :: s14 :: .v o :: e) = .ok o (s0 :: s1 :: s2 :: s3 :: s4 :: s5 :: s6 :: s7 :: s8 :: s9 :: s10 :: s11 :: s12 :: s13 :: s14 :: .no :: e) := Eq.trans rfl rfl
@[simp] theorem w15g {s0 s1 s2 s3 s4 s5 s6 s7 s8 s9 s10 s11 s12 s13 s14 : Sl} {s : Sl} {o q : O} {as : List Ag} {qs : List (Option O)} (h : s.cont = none) : wb (s0 :: s1 :: s2 :: s3 :: s4 :: s5 :: s6 :: s7 :: s8 :: s9 :: s10 :: s11 :: s12 :: s13 :: s14 :: s :: e) ((o, some 15) :: as) (some q :: qs) = wb (s0 :: s1 :: s2 :: s3 :: s4 :: s5 :: s6 :: s7 :: s8 :: s9 :: s10 :: s11 :: s12 :: s13 :: s14 :: s.put q :: e) as qs := by simp [wb, h, putS, modS]
@[simp] theorem w15h {s0 s1 s2 s3 s4 s5 s6 s7 s8 s9 s10 s11 s12 s13 s14 : Sl} {s : Sl} {t : Sl} : List.set (s0 :: s1 :: s2 :: s3 :: s4 :: s5 :: s6 :: s7 :: s8 :: s9 :: s10 :: s11 :: s12 :: s13 :: s14 :: s :: e) 15 t = s0 :: s1 :: s2 :: s3 :: s4 :: s5 :: s6 :: s7 :: s8 :: s9 :: s10 :: s11 :: s12 :: s13 :: s14 :: t :: e := Eq.trans rfl rfl
@[simp] theorem w16a {s0 s1 s2 s3 s4 s5 s6 s7 s8 s9 s10 s11 s12 s13 s14 s15 : Sl} {s : Sl} : slot (s0 :: s1 :: s2 :: s3 :: s4 :: s5 :: s6 :: s7 :: s8 :: s9 :: s10 :: s11 :: s12 :: s13 :: s14 :: s15 :: s :: e) 16 = s.cont := Eq.trans rfl rfl
@[simp] theorem w16b {s0 s1 s2 s3 s4 s5 s6 s7 s8 s9 s10 s11 s12 s13 s14 s15 : Sl} {s : Sl} {o : O} : putS (s0 :: s1 :: s2 :: s3 :: s4 :: s5 :: s6 :: s7 :: s8 :: s9 :: s10 :: s11 :: s12 :: s13 :: s14 :: s15 :: s :: e) 16 o = s0 :: s1 :: s2 :: s3 :: s4 :: s5 :: s6 :: s7 :: s8 :: s9 :: s10 :: s11 :: s12 :: s13 :: s14 :: s15 :: s.put o :: e := Eq.trans rfl rfl
@[simp] theorem w16c {s0 s1 s2 s3 s4 s5 s6 s7 s8 s9 s10 s11 s12 s13 s14 s15 : Sl} {s : Sl} : lentS (s0 :: s1 :: s2 :: s3 :: s4 :: s5 :: s6 :: s7 :: s8 :: s9 :: s10 :: s11 :: s12 :: s13 :: s14 :: s15 :: s :: e) 16 = s0 :: s1 :: s2 :: s3 :: s4 :: s5 :: s6 :: s7 :: s8 :: s9 :: s10 :: s11 :: s12 :: s13 :: s14 :: s15 :: s.lent :: e := Eq.trans rfl rfl
@[simp] theorem w16d {s0 s1 s2 s3 s4 s5 s6 s7 s8 s9 s10 s11 s12 s13 s14 s15 : Sl} {o : O} : setS (s0 :: s1 :: s2 :: s3 :: s4 :: s5 :: s6 :: s7 :: s8 :: s9 :: s10 :: s11 :: s12 :: s13 :: s14 :: s15 :: .no :: e) 16 o = some (s0 :: s1 :: s2 :: s3 :: s4 :: s5 :: s6 :: s7 :: s8 :: s9 :: s10 :: s11 :: s12 :: s13 :: s14 :: s15 :: .v o :: e) := Eq.trans rfl rfl
@[simp] theorem w16e {s0 s1 s2 s3 s4 s5 s6 s7 s8 s9 s10 s11 s12 s13 s14 s15 : Sl} {o x : O} : setS (s0 :: s1 :: s2 :: s3 :: s4 :: s5 :: s6 :: s7 :: s8 :: s9 :: s10 :: s11 :: s12 :: s13 :: s14 :: s15 :: .v x :: e) 16 o = some (s0 :: s1 :: s2 :: s3 :: s4 :: s5 :: s6 :: s7 :: s8 :: s9 :: s10 :: s11 :: s12 :: s13 :: s14 :: s15 :: .v o :: e) := Eq.trans rfl rfl
@[simp] theorem w16i {s0 s1 s2 s3 s4 s5 s6 s7 s8 s9 s10 s11 s12 s13 s14 s15 : Sl} {s : Sl} {o : O} (h : s.pinned = false) : setS (s0 :: s1 :: s2 :: s3 :: s4 :: s5 :: s6 :: s7 :: s8 :: s9 :: s10 :: s11 :: s12 :: s13 :: s14 :: s15 :: s :: e) 16 o = some (s0 :: s1 :: s2 :: s3 :: s4 :: s5 :: s6 :: s7 :: s8 :: s9 :: s10 :: s11 :: s12 :: s13 :: s14 :: s15 :: .v o :: e) := by simp [setS, h]
@[simp] theorem w16f {s0 s1 s2 s3 s4 s5 s6 s7 s8 s9 s10 s11 s12 s13 s14 s15 : Sl} {o : O} : dMove 16 (s0 :: s1 :: s2 :: s3 :: s4 :: s5 :: s6 :: s7 :: s8 :: s9 :: s10 :: s11 :: s12 :: s13 :: s14 :: s15 :: .v o :: e) = .ok o (s0 :: s1 :: s2 :: s3 :: s4 :: s5 :: s6 :: s7 :: s8 :: s9 :: s10 :: s11 :: s12 :: s13 :: s14 :: s15 :: .no :: e) := Eq.trans rfl rfl
@[simp] theorem w16g {s0 s1 s2 s3 s4 s5 s6 s7 s8 s9 s10 s11 s12 s13 s14 s15 : Sl} {s : Sl} {o q : O} {as : List Ag} {qs : List (Option O)} (h : s.cont = none) : wb (s0 :: s1 :: s2 :: s3 :: s4 :: s5 :: s6 :: s7 :: s8 :: s9 :: s10 :: s11 :: s12 :: s13 :: s14 :: s15 :: s :: e) ((o, some 16) :: as) (some q :: qs) = wb (s0 :: s1 :: s2 :: s3 :: s4 :: s5 :: s6 :: s7 :: s8 :: s9 :: s10 :: s11 :: s12 :: s13 :: s14 :: s15 :: s.put q :: e) as qs := by simp [wb, h, putS, modS]
@[simp] theorem w16h {s0 s1 s2 s3 s4 s5 s6 s7 s8 s9 s10 s11 s12 s13 s14 s15 : Sl} {s : Sl} {t : Sl} : List.set (s0 :: s1 :: s2 :: s3 :: s4 :: s5 :: s6 :: s7 :: s8 :: s9 :: s10 :: s11 :: s12 :: s13 :: s14 :: s15 :: s :: e) 16 t = s0 :: s1 :: s2 :: s3 :: s4 :: s5 :: s6 :: s7 :: s8 :: s9 :: s10 :: s11 :: s12 :: s13 :: s14 :: s15 :: t :: e := Eq.trans rfl rfl
@[simp] theorem w17a {s0 s1 s2 s3 s4 s5 s6 s7 s8 s9 s10 s11 s12 s13 s14 s15 s16 : Sl} {s : Sl} : slot (s0 :: s1 :: s2 :: s3 :: s4 :: s5 :: s6 :: s7 :: s8 :: s9 :: s10 :: s11 :: s12 :: s13 :: s14 :: s15 :: s16 :: s :: e) 17 = s.cont := Eq.trans rfl rfl
@[simp] theorem w17b {s0 s1 s2 s3 s4 s5 s6 s7 s8 s9 s10 s11 s12 s13 s14 s15 s16 : Sl} {s : Sl} {o : O} : putS (s0 :: s1 :: s2 :: s3 :: s4 :: s5 :: s6 :: s7 :: s8 :: s9 :: s10 :: s11 :: s12 :: s13 :: s14 :: s15 :: s16 :: s :: e) 17 o = s0 :: s1 :: s2 :: s3 :: s4 :: s5 :: s6 :: s7 :: s8 :: s9 :: s10 :: s11 :: s12 :: s13 :: s14 :: s15 :: s16 :: s.put o :: e := Eq.trans rfl rfl
@[simp] theorem w17c {s0 s1 s2 s3 s4 s5 s6 s7 s8 s9 s10 s11 s12 s13 s14 s15 s16 : Sl} {s : Sl} : lentS (s0 :: s1 :: s2 :: s3 :: s4 :: s5 :: s6 :: s7 :: s8 :: s9 :: s10 :: s11 :: s12 :: s13 :: s14 :: s15 :: s16 :: s :: e) 17 = s0 :: s1 :: s2 :: s3 :: s4 :: s5 :: s6 :: s7 :: s8 :: s9 :: s10 :: s11 :: s12 :: s13 :: s14 :: s15 :: s16 :: s.lent :: e := Eq.trans rfl rfl
@[simp] theorem w17d {s0 s1 s2 s3 s4 s5 s6 s7 s8 s9 s10 s11 s12 s13 s14 s15 s16 : Sl} {o : O} : setS (s0 :: s1 :: s2 :: s3 :: s4 :: s5 :: s6 :: s7 :: s8 :: s9 :: s10 :: s11 :: s12 :: s13 :: s14 :: s15 :: s16 :: .no :: e) 17 o = some (s0 :: s1 :: s2 :: s3 :: s4 :: s5 :: s6 :: s7 :: s8 :: s9 :: s10 :: s11 :: s12 :: s13 :: s14 :: s15 :: s16 :: .v o :: e) := Eq.trans rfl rfl
@[simp] theorem w17e {s0 s1 s2 s3 s4 s5 s6 s7 s8 s9 s10 s11 s12 s13 s14 s15 s16 : Sl} {o x : O} : setS (s0 :: s1 :: s2 :: s3 :: s4 :: s5 :: s6 :: s7 :: s8 :: s9 :: s10 :: s11 :: s12 :: s13 :: s14 :: s15 :: s16 :: .v x :: e) 17 o = some (s0 :: s1 :: s2 :: s3 :: s4 :: s5 :: s6 :: s7 :: s8 :: s9 :: s10 :: s11 :: s12 :: s13 :: s14 :: s15 :: s16 :: .v o :: e) := Eq.trans rfl rfl
@[simp] theorem w17i {s0 s1 s2 s3 s4 s5 s6 s7 s8 s9 s10 s11 s12 s13 s14 s15 s16 : Sl} {s : Sl} {o : O} (h : s.pinned = false) : setS (s0 :: s1 :: s2 :: s3 :: s4 :: s5 :: s6 :: s7 :: s8 :: s9 :: s10 :: s11 :: s12 :: s13 :: s14 :: s15 :: s16 :: s :: e) 17 o = some (s0 :: s1 :: s2 :: s3 :: s4 :: s5 :: s6 :: s7 :: s8 :: s9 :: s10 :: s11 :: s12 :: s13 :: s14 :: s15 :: s16 :: .v o :: e) := by simp [setS, h]
@[simp] theorem w17f {s0 s1 s2 s3 s4 s5 s6 s7 s8 s9 s10 s11 s12 s13 s14 s15 s16 : Sl} {o : O} : dMove 17 (s0 :: s1 :: s2 :: s3 :: s4 :: s5 :: s6 :: s7 :: s8 :: s9 :: s10 :: s11 :: s12 :: s13 :: s14 :: s15 :: s16 :: .v o :: e) = .ok o (s0 :: s1 :: s2 :: s3 :: s4 :: s5 :: s6 :: s7 :: s8 :: s9 :: s10 :: s11 :: s12 :: s13 :: s14 :: s15 :: s16 :: .no :: e) := Eq.trans rfl rfl
@[simp] theorem w17g {s0 s1 s2 s3 s4 s5 s6 s7 s8 s9 s10 s11 s12 s13 s14 s15 s16 : Sl} {s : Sl} {o q : O} {as : List Ag} {qs : List (Option O)} (h : s.cont = none) : wb (s0 :: s1 :: s2 :: s3 :: s4 :: s5 :: s6 :: s7 :: s8 :: s9 :: s10 :: s11 :: s12 :: s13 :: s14 :: s15 :: s16 :: s :: e) ((o, some 17) :: as) (some q :: qs) = wb (s0 :: s1 :: s2 :: s3 :: s4 :: s5 :: s6 :: s7 :: s8 :: s9 :: s10 :: s11 :: s12 :: s13 :: s14 :: s15 :: s16 :: s.put q :: e) as qs := by simp [wb, h, putS, modS]
@[simp] theorem w17h {s0 s1 s2 s3 s4 s5 s6 s7 s8 s9 s10 s11 s12 s13 s14 s15 s16 : Sl} {s : Sl} {t : Sl} : List.set (s0 :: s1 :: s2 :: s3 :: s4 :: s5 :: s6 :: s7 :: s8 :: s9 :: s10 :: s11 :: s12 :: s13 :: s14 :: s15 :: s16 :: s :: e) 17 t = s0 :: s1 :: s2 :: s3 :: s4 :: s5 :: s6 :: s7 :: s8 :: s9 :: s10 :: s11 :: s12 :: s13 :: s14 :: s15 :: s16 :: t :: e := Eq.trans rfl rfl
@[simp] theorem w18a {s0 s1 s2 s3 s4 s5 s6 s7 s8 s9 s10 s11 s12 s13 s14 s15 s16 s17 : Sl} {s : Sl} : slot (s0 :: s1 :: s2 :: s3 :: s4 :: s5 :: s6 :: s7 :: s8 :: s9 :: s10 :: s11 :: s12 :: s13 :: s14 :: s15 :: s16 :: s17 :: s :: e) 18 = s.cont := Eq.trans rfl rfl
@[simp] theorem w18b {s0 s1 s2 s3 s4 s5 s6 s7 s8 s9 s10 s11 s12 s13 s14 s15 s16 s17 : Sl} {s : Sl} {o : O} : putS (s0 :: s1 :: s2 :: s3 :: s4 :: s5 :: s6 :: s7 :: s8 :: s9 :: s10 :: s11 :: s12 :: s13 :: s14 :: s15 :: s16 :: s17 :: s :: e) 18 o = s0 :: s1 :: s2 :: s3 :: s4 :: s5 :: s6 :: s7 :: s8 :: s9 :: s10 :: s11 :: s12 :: s13 :: s14 :: s15 :: s16 :: s17 :: s.put o :: e := Eq.trans rfl rfl
@[simp] theorem w18c {s0 s1 s2 s3 s4 s5 s6 s7 s8 s9 s10 s11 s12 s13 s14 s15 s16 s17 : Sl} {s : Sl} : lentS (s0 :: s1 :: s2 :: s3 :: s4 :: s5 :: s6 :: s7 :: s8 :: s9 :: s10 :: s11 :: s12 :: s13 :: s14 :: s15 :: s16 :: s17 :: s :: e) 18 = s0 :: s1 :: s2 :: s3 :: s4 :: s5 :: s6 :: s7 :: s8 :: s9 :: s10 :: s11 :: s12 :: s13 :: s14 :: s15 :: s16 :: s17 :: s.lent :: e := Eq.trans rfl rfl
@[simp] theorem w18d {s0 s1 s2 s3 s4 s5 s6 s7 s8 s9 s10 s11 s12 s13 s14 s15 s16 s17 : Sl} {o : O} : setS (s0 :: s1 :: s2 :: s3 :: s4 :: s5 :: s6 :: s7 :: s8 :: s9 :: s10 :: s11 :: s12 :: s13 :: s14 :: s15 :: s16 :: s17 :: .no :: e) 18 o = some (s0 :: s1 :: s2 :: s3 :: s4 :: s5 :: s6 :: s7 :: s8 :: s9 :: s10 :: s11 :: s12 :: s13 :: s14 :: s15 :: s16 :: s17 :: .v o :: e) := Eq.trans rfl rfl
@[simp] theorem w18e {s0 s1 s2 s3 s4 s5 s6 s7 s8 s9 s10 s11 s12 s13 s14 s15 s16 s17 : Sl} {o x : O} : setS (s0 :: s1 :: s2 :: s3 :: s4 :: s5 :: s6 :: s7 :: s8 :: s9 :: s10 :: s11 :: s12 :: s13 :: s14 :: s15 :: s16 :: s17 :: .v x :: e) 18 o = some (s0 :: s1 :: s2 :: s3 :: s4 :: s5 :: s6 :: s7 :: s8 :: s9 :: s10 :: s11 :: s12 :: s13 :: s14 :: s15 :: s16 :: s17 :: .v o :: e) := Eq.trans rfl rfl
@[simp] theorem w18i {s0 s1 s2 s3 s4 s5 s6 s7 s8 s9 s10 s11 s12 s13 s14 s15 s16 s17 : Sl} {s : Sl} {o : O} (h : s.pinned = false) : setS (s0 :: s1 :: s2 :: s3 :: s4 :: s5 :: s6 :: s7 :: s8 :: s9 :: s10 :: s11 :: s12 :: s13 :: s14 :: s15 :: s16 :: s17 :: s :: e) 18 o = some (s0 :: s1 :: s2 :: s3 :: s4 :: s5 :: s6 :: s7 :: s8 :: s9 :: s10 :: s11 :: s12 :: s13 :: s14 :: s15 :: s16 :: s17 :: .v o :: e) := by simp [setS, h]
@[simp] theorem w18f {s0 s1 s2 s3 s4 s5 s6 s7 s8 s9 s10 s11 s12 s13 s14 s15 s16 s17 : Sl} {o : O} : dMove 18 (s0 :: s1 :: s2 :: s3 :: s4 :: s5 :: s6 :: s7 :: s8 :: s9 :: s10 :: s11 :: s12 :: s13 :: s14 :: s15 :: s16 :: s17 :: .v o :: e) = .ok o (s0 :: s1 :: s2 :: s3 :: s4 :: s5 :: s6 :: s7 :: s8 :: s9 :: s10 :: s11 :: s12 :: s13 :: s14 :: s15 :: s16 :: s17 :: .no :: e) := Eq.trans rfl rfl
@[simp] theorem w18g {s0 s1 s2 s3 s4 s5 s6 s7 s8 s9 s10 s11 s12 s13 s14 s15 s16 s17 : Sl} {s : Sl} {o q : O} {as : List Ag} {qs : List (Option O)} (h : s.cont = none) : wb (s0 :: s1 :: s2 :: s3 :: s4 :: s5 :: s6 :: s7 :: s8 :: s9 :: s10 :: s11 :: s12 :: s13 :: s14 :: s15 :: s16 :: s17 :: s :: e) ((o, some 18) :: as) (some q :: qs) = wb (s0 :: s1 :: s2 :: s3 :: s4 :: s5 :: s6 :: s7 :: s8 :: s9 :: s10 :: s11 :: s12 :: s13 :: s14 :: s15 :: s16 :: s17 :: s.put q :: e) as qs := by simp [wb, h, putS, modS]
@[simp] theorem w18h {s0 s1 s2 s3 s4 s5 s6 s7 s8 s9 s10 s11 s12 s13 s14 s15 s16 s17 : Sl} {s : Sl} {t : Sl} : List.set (s0 :: s1 :: s2 :: s3 :: s4 :: s5 :: s6 :: s7 :: s8 :: s9 :: s10 :: s11 :: s12 :: s13 :: s14 :: s15 :: s16 :: s17 :: s :: e) 18 t = s0 :: s1 :: s2 :: s3 :: s4 :: s5 :: s6 :: s7 :: s8 :: s9 :: s10 :: s11 :: s12 :: s13 :: s14 :: s15 :: s16 :: s17 :: t :: e := Eq.trans rfl rfl
@[simp] theorem w19a {s0 s1 s2 s3 s4 s5 s6 s7 s8 s9 s10 s11 s12 s13 s14 s15 s16 s17 s18 : Sl} {s : Sl} : slot (s0 :: s1 :: s2 :: s3 :: s4 :: s5 :: s6 :: s7 :: s8 :: s9 :: s10 :: s11 :: s12 :: s13 :: s14 :: s15 :: s16 :: s17 :: s18 :: s :: e) 19 = s.cont := Eq.trans rfl rfl
@[simp] theorem w19b {s0 s1 s2 s3 s4 s5 s6 s7 s8 s9 s10 s11 s12 s13 s14 s15 s16 s17 s18 : Sl} {s : Sl} {o : O} : putS (s0 :: s1 :: s2 :: s3 :: s4 :: s5 :: s6 :: s7 :: s8 :: s9 :: s10 :: s11 :: s12 :: s13 :: s14 :: s15 :: s16 :: s17 :: s18 :: s :: e) 19 o = s0 :: s1 :: s2 :: s3 :: s4 :: s5 :: s6 :: s7 :: s8 :: s9 :: s10 :: s11 :: s12 :: s13 :: s14 :: s15 :: s16 :: s17 :: s18 :: s.put o :: e := Eq.trans rfl rfl
@[simp] theorem w19c {s0 s1 s2 s3 s4 s5 s6 s7 s8 s9 s10 s11 s12 s13 s14 s15 s16 s17 s18 : Sl} {s : Sl} : lentS (s0 :: s1 :: s2 :: s3 :: s4 :: s5 :: s6 :: s7 :: s8 :: s9 :: s10 :: s11 :: s12 :: s13 :: s14 :: s15 :: s16 :: s17 :: s18 :: s :: e) 19 = s0 :: s1 :: s2 :: s3 :: s4 :: s5 :: s6 :: s7 :: s8 :: s9 :: s10 :: s11 :: s12 :: s13 :: s14 :: s15 :: s16 :: s17 :: s18 :: s.lent :: e := Eq.trans rfl rfl
@[simp] theorem w19d {s0 s1 s2 s3 s4 s5 s6 s7 s8 s9 s10 s11 s12 s13 s14 s15 s16 s17 s18 : Sl} {o : O} : setS (s0 :: s1 :: s2 :: s3 :: s4 :: s5 :: s6 :: s7 :: s8 :: s9 :: s10 :: s11 :: s12 :: s13 :: s14 :: s15 :: s16 :: s17 :: s18 :: .no :: e) 19 o = some (s0 :: s1 :: s2 :: s3 :: s4 :: s5 :: s6 :: s7 :: s8 :: s9 :: s10 :: s11 :: s12 :: s13 :: s14 :: s15 :: s16 :: s17 :: s18 :: .v o :: e) := Eq.trans rfl rfl
@[simp] theorem w19e {s0 s1 s2 s3 s4 s5 s6 s7 s8 s9 s10 s11 s12 s13 s14 s15 s16 s17 s18 : Sl} {o x : O} : setS (s0 :: s1 :: s2 :: s3 :: s4 :: s5 :: s6 :: s7 :: s8 :: s9 :: s10 :: s11 :: s12 :: s13 :: s14 :: s15 :: s16 :: s17 :: s18 :: .v x :: e) 19 o = some (s0 :: s1 :: s2 :: s3 :: s4 :: s5 :: s6 :: s7 :: s8 :: s9 :: s10 :: s11 :: s12 :: s13 :: s14 :: s15 :: s16 :: s17 :: s18 :: .v o :: e) := Eq.trans rfl rfl
@[simp] theorem w19i {s0 s1 s2 s3 s4 s5 s6 s7 s8 s9 s10 s11 s12 s13 s14 s15 s16 s17 s18 : Sl} {s : Sl} {o : O} (h : s.pinned = false) : setS (s0 :: s1 :: s2 :: s3 :: s4 :: s5 :: s6 :: s7 :: s8 :: s9 :: s10 :: s11 :: s12 :: s13 :: s14 :: s15 :: s16 :: s17 :: s18 :: s :: e) 19 o = some (s0 :: s1 :: s2 :: s3 :: s4 :: s5 :: s6 :: s7 :: s8 :: s9 :: s10 :: s11 :: s12 :: s13 :: s14 :: s15 :: s16 :: s17 :: s18 :: .v o :: e) := by simp [setS, h]
@[simp] theorem w19f {s0 s1 s2 s3 s4 s5 s6 s7 s8 s9 s10 s11 s12 s13 s14 s15 s16 s17 s18 : Sl} {o : O} : dMove 19 (s0 :: s1 :: s2 :: s3 :: s4 :: s5 :: s6 :: s7 :: s8 :: s9 :: s10 :: s11 :: s12 :: s13 :: s14 :: s15 :: s16 :: s17 :: s18 :: .v o :: e) = .ok o (s0 :: s1 :: s2 :: s3 :: s4 :: s5 :: s6 :: s7 :: s8 :: s9 :: s10 :: s11 :: s12 :: s13 :: s14 :: s15 :: s16 :: s17 :: s18 :: .no :: e) := Eq.trans rfl rfl
@[simp] theorem w19g {s0 s1 s2 s3 s4 s5 s6 s7 s8 s9 s10 s11 s12 s13 s14 s15 s16 s17 s18 : Sl} {s : Sl} {o q : O} {as : List Ag} {qs : List (Option O)} (h : s.cont = none) : wb (s0 :: s1 :: s2 :: s3 :: s4 :: s5 :: s6 :: s7 :: s8 :: s9 :: s10 :: s11 :: s12 :: s13 :: s14 :: s15 :: s16 :: s17 :: s18 :: s :: e) ((o, some 19) :: as) (some q :: qs) = wb (s0 :: s1 :: s2 :: s3 :: s4 :: s5 :: s6 :: s7 :: s8 :: s9 :: s10 :: s11 :: s12 :: s13 :: s14 :: s15 :: s16 :: s17 :: s18 :: s.put q :: e) as qs := by simp [wb, h, putS, modS]
@[simp] theorem w19h {s0 s1 s2 s3 s4 s5 s6 s7 s8 s9 s10 s11 s12 s13 s14 s15 s16 s17 s18 : Sl} {s : Sl} {t : Sl} : List.set (s0 :: s1 :: s2 :: s3 :: s4 :: s5 :: s6 :: s7 :: s8 :: s9 :: s10 :: s11 :: s12 :: s13 :: s14 :: s15 :: s16 :: s17 :: s18 :: s :: e) 19 t = s0 :: s1 :: s2 :: s3 :: s4 :: s5 :: s6 :: s7 :: s8 :: s9 :: s10 :: s11 :: s12 :: s13 :: s14 :: s15 :: s16 :: s17 :: s18 :: t :: e := Eq.trans rfl rfl
@[simp] theorem w20a {s0 s1 s2 s3 s4 s5 s6 s7 s8 s9 s10 s11 s12 s13 s14 s15 s16 s17 s18 s19 : Sl} {s : Sl} : slot (s0 :: s1 :: s2 :: s3 :: s4 :: s5 :: s6 :: s7 :: s8 :: s9 :: s10 :: s11 :: s12 :: s13 :: s14 :: s15 :: s16 :: s17 :: s18 :: s19 :: s :: e) 20 = s.cont := Eq.trans rfl rfl
@[simp] theorem w20b {s0 s1 s2 s3 s4 s5 s6 s7 s8 s9 s10 s11 s12 s13 s14 s15 s16 s17 s18 s19 : Sl} {s : Sl} {o : O} : putS (s0 :: s1 :: s2 :: s3 :: s4 :: s5 :: s6 :: s7 :: s8 :: s9 :: s10 :: s11 :: s12 :: s13 :: s14 :: s15 :: s16 :: s17 :: s18 :: s19 :: s :: e) 20 o = s0 :: s1 :: s2 :: s3 :: s4 :: s5 :: s6 :: s7 :: s8 :: s9 :: s10 :: s11 :: s12 :: s13 :: s14 :: s15 :: s16 :: s17 :: s18 :: s19 :: s.put o :: e := Eq.trans rfl rfl
@[simp] theorem w20c {s0 s1 s2 s3 s4 s5 s6 s7 s8 s9 s10 s11 s12 s13 s14 s15 s16 s17 s18 s19 : Sl} {s : Sl} : lentS (s0 :: s1 :: s2 :: s3 :: s4 :: s5 :: s6 :: s7 :: s8 :: s9 :: s10 :: s11 :: s12 :: s13 :: s14 :: s15 :: s16 :: s17 :: s18 :: s19 :: s :: e) 20 = s0 :: s1 :: s2 :: s3 :: s4 :: s5 :: s6 :: s7 :: s8 :: s9 :: s10 :: s11 :: s12 :: s13 :: s14 :: s15 :: s16 :: s17 :: s18 :: s19 :: s.lent :: e := Eq.trans rfl rfl
@[simp] theorem w20d {s0 s1 s2 s3 s4 s5 s6 s7 s8 s9 s10 s11 s12 s13 s14 s15 s16 s17 s18 s19 : Sl} {o : O} : setS (s0 :: s1 :: s2 :: s3 :: s4 :: s5 :: s6 :: s7 :: s8 :: s9 :: s10 :: s11 :: s12 :: s13 :: s14 :: s15 :: s16 :: s17 :: s18 :: s19 :: .no :: e) 20 o = some (s0 :: s1 :: s2 :: s3 :: s4 :: s5 :: s6 :: s7 :: s8 :: s9 :: s10 :: s11 :: s12 :: s13 :: s14 :: s15 :: s16 :: s17 :: s18 :: s19 :: .v o :: e) := Eq.trans rfl rfl
@[simp] theorem w20e {s0 s1 s2 s3 s4 s5 s6 s7 s8 s9 s10 s11 s12 s13 s14 s15 s16 s17 s18 s19 : Sl} {o x : O} : setS (s0 :: s1 :: s2 :: s3 :: s4 :: s5 :: s6 :: s7 :: s8 :: s9 :: s10 :: s11 :: s12 :: s13 :: s14 :: s15 :: s16 :: s17 :: s18 :: s19 :: .v x :: e) 20 o = some (s0 :: s1 :: s2 :: s3 :: s4 :: s5 :: s6 :: s7 :: s8 :: s9 :: s10 :: s11 :: s12 :: s13 :: s14 :: s15 :: s16 :: s17 :: s18 :: s19 :: .v o :: e) := Eq.trans rfl rfl
@[simp] theorem w20i {s0 s1 s2 s3 s4 s5 s6 s7 s8 s9 s10 s11 s12 s13 s14 s15 s16 s17 s18 s19 : Sl} {s : Sl} {o : O} (h : s.pinned = false) : setS (s0 :: s1 :: s2 :: s3 :: s4 :: s5 :: s6 :: s7 :: s8 :: s9 :: s10 :: s11 :: s12 :: s13 :: s14 :: s15 :: s16 :: s17 :: s18 :: s19 :: s :: e) 20 o = some (s0 :: s1 :: s2 :: s3 :: s4 :: s5 :: s6 :: s7 :: s8 :: s9 :: s10 :: s11 :: s12 :: s13 :: s14 :: s15 :: s16 :: s17 :: s18 :: s19 :: .v o :: e) := by simp [setS, h]
@[simp] theorem w20f {s0 s1 s2 s3 s4 s5 s6 s7 s8 s9 s10 s11 s12 s13 s14 s15 s16 s17 s18 s19 : Sl} {o : O} : dMove 20 (s0 :: s1 :: s2 :: s3 :: s4 :: s5 :: s6 :: s7 :: s8 :: s9 :: s10 :: s11 :: s12 :: s13 :: s14 :: s15 :: s16 :: s17 :: s18 :: s19 :: .v o :: e) = .ok o (s0 :: s1 :: s2 :: s3 :: s4 :: s5 :: s6 :: s7 :: s8 :: s9 :: s10 :: s11 :: s12 :: s13 :: s14 :: s15 :: s16 :: s17 :: s18 :: s19 :: .no :: e) := Eq.trans rfl rfl
@[simp] theorem w20g {s0 s1 s2 s3 s4 s5 s6 s7 s8 s9 s10 s11 s12 s13 s14 s15 s16 s17 s18 s19 : Sl} {s : Sl} {o q : O} {as : List Ag} {qs : List (Option O)} (h : s.cont = none) : wb (s0 :: s1 :: s2 :: s3 :: s4 :: s5 :: s6 :: s7 :: s8 :: s9 :: s10 :: s11 :: s12 :: s13 :: s14 :: s15 :: s16 :: s17 :: s18 :: s19 :: s :: e) ((o, some 20) :: as) (some q :: qs) = wb (s0 :: s1 :: s2 :: s3 :: s4 :: s5 :: s6 :: s7 :: s8 :: s9 :: s10 :: s11 :: s12 :: s13 :: s14 :: s15 :: s16 :: s17 :: s18 :: s19 :: s.put q :: e) as qs := by simp [wb, h, putS, modS]
@[simp] theorem w20h {s0 s1 s2 s3 s4 s5 s6 s7 s8 s9 s10 s11 s12 s13 s14 s15 s16 s17 s18 s19 : Sl} {s : Sl} {t : Sl} : List.set (s0 :: s1 :: s2 :: s3 :: s4 :: s5 :: s6 :: s7 :: s8 :: s9 :: s10 :: s11 :: s12 :: s13 :: s14 :: s15 :: s16 :: s17 :: s18 :: s19 :: s :: e) 20 t = s0 :: s1 :: s2 :: s3 :: s4 :: s5 :: s6 :: s7 :: s8 :: s9 :: s10 :: s11 :: s12 :: s13 :: s14 :: s15 :: s16 :: s17 :: s18 :: s19 :: t :: e := Eq.trans rfl rfl
@[simp] theorem w21a {s0 s1 s2 s3 s4 s5 s6 s7 s8 s9 s10 s11 s12 s13 s14 s15 s16 s17 s18 s19 s20 : Sl} {s : Sl} : slot (s0 :: s1 :: s2 :: s3 :: s4 :: s5 :: s6 :: s7 :: s8 :: s9 :: s10 :: s11 :: s12 :: s13 :: s14 :: s15 :: s16 :: s17 :: s18 :: s19 :: s20 :: s :: e) 21 = s.cont := Eq.trans rfl rfl
@[simp] theorem w21b {s0 s1 s2 s3 s4 s5 s6 s7 s8 s9 s10 s11 s12 s13 s14 s15 s16 s17 s18 s19 s20 : Sl} {s : Sl} {o : O} : putS (s0 :: s1 :: s2 :: s3 :: s4 :: s5 :: s6 :: s7 :: s8 :: s9 :: s10 :: s11 :: s12 :: s13 :: s14 :: s15 :: s16 :: s17 :: s18 :: s19 :: s20 :: s :: e) 21 o = s0 :: s1 :: s2 :: s3 :: s4 :: s5 :: s6 :: s7 :: s8 :: s9 :: s10 :: s11 :: s12 :: s13 :: s14 :: s15 :: s16 :: s17 :: s18 :: s19 :: s20 :: s.put o :: e := Eq.trans rfl rfl
@[simp] theorem w21c {s0 s1 s2 s3 s4 s5 s6 s7 s8 s9 s10 s11 s12 s13 s14 s15 s16 s17 s18 s19 s20 : Sl} {s : Sl} : lentS (s0 :: s1 :: s2 :: s3 :: s4 :: s5 :: s6 :: s7 :: s8 :: s9 :: s10 :: s11 :: s12 :: s13 :: s14 :: s15 :: s16 :: s17 :: s18 :: s19 :: s20 :: s :: e) 21 = s0 :: s1 :: s2 :: s3 :: s4 :: s5 :: s6 :: s7 :: s8 :: s9 :: s10 :: s11 :: s12 :: s13 :: s14 :: s15 :: s16 :: s17 :: s18 :: s19 :: s20 :: s.lent :: e := Eq.trans rfl rfl
@[simp] theorem w21d {s0 s1 s2 s3 s4 s5 s6 s7 s8 s9 s10 s11 s12 s13 s14 s15 s16 s17 s18 s19 s20 : Sl} {o : O} : setS (s0 :: s1 :: s2 :: s3 :: s4 :: s5 :: s6 :: s7 :: s8 :: s9 :: s10 :: s11 :: s12 :: s13 :: s14 :: s15 :: s16 :: s17 :: s18 :: s19 :: s20 :: .no :: e) 21 o = some (s0 :: s1 :: s2 :: s3 :: s4 :: s5 :: s6 :: s7 :: s8 :: s9 :: s10 :: s11 :: s12 :: s13 :: s14 :: s15 :: s16 :: s17 :: s18 :: s19 :: s20 :: .v o :: e) := Eq.trans rfl rfl
@[simp] theorem w21e {s0 s1 s2 s3 s4 s5 s6 s7 s8 s9 s10 s11 s12 s13 s14 s15 s16 s17 s18 s19 s20 : Sl} {o x : O} : setS (s0 :: s1 :: s2 :: s3 :: s4 :: s5 :: s6 :: s7 :: s8 :: s9 :: s10 :: s11 :: s12 :: s13 :: s14 :: s15 :: s16 :: s17 :: s18 :: s19 :: s20 :: .v x :: e) 21 o = some (s0 :: s1 :: s2 :: s3 :: s4 :: s5 :: s6 :: s7 :: s8 :: s9 :: s10 :: s11 :: s12 :: s13 :: s14 :: s15 :: s16 :: s17 :: s18 :: s19 :: s20 :: .v o :: e) := Eq.trans rfl rfl
@[simp] theorem w21i {s0 s1 s2 s3 s4 s5 s6 s7 s8 s9 s10 s11 s12 s13 s14 s15 s16 s17 s18 s19 s20 : Sl} {s : Sl} {o : O} (h : s.pinned = false) : setS (s0 :: s1 :: s2 :: s3 :: s4 :: s5 :: s6 :: s7 :: s8 :: s9 :: s10 :: s11 :: s12 :: s13 :: s14 :: s15 :: s16 :: s17 :: s18 :: s19 :: s20 :: s :: e) 21 o = some (s0 :: s1 :: s2 :: s3 :: s4 :: s5 :: s6 :: s7 :: s8 :: s9 :: s10 :: s11 :: s12 :: s13 :: s14 :: s15 :: s16 :: s17 :: s18 :: s19 :: s20 :: .v o :: e) := by simp [setS, h]
@[simp] theorem w21f {s0 s1 s2 s3 s4 s5 s6 s7 s8 s9 s10 s11 s12 s13 s14 s15 s16 s17 s18 s19 s20 : Sl} {o : O} : dMove 21 (s0 :: s1 :: s2 :: s3 :: s4 :: s5 :: s6 :: s7 :: s8 :: s9 :: s10 :: s11 :: s12 :: s13 :: s14 :: s15 :: s16 :: s17 :: s18 :: s19 :: s20 :: .v o :: e) = .ok o (s0 :: s1 :: s2 :: s3 :: s4 :: s5 :: s6 :: s7 :: s8 :: s9 :: s10 :: s11 :: s12 :: s13 :: s14 :: s15 :: s16 :: s17 :: s18 :: s19 :: s20 :: .no :: e) := Eq.trans rfl rfl
@[simp] theorem w21g {s0 s1 s2 s3 s4 s5 s6 s7 s8 s9 s10 s11 s12 s13 s14 s15 s16 s17 s18 s19 s20 : Sl} {s : Sl} {o q : O} {as : List Ag} {qs : List (Option O)} (h : s.cont = none) : wb (s0 :: s1 :: s2 :: s3 :: s4 :: s5 :: s6 :: s7 :: s8 :: s9 :: s10 :: s11 :: s12 :: s13 :: s14 :: s15 :: s16 :: s17 :: s18 :: s19 :: s20 :: s :: e) ((o, some 21) :: as) (some q :: qs) = wb (s0 :: s1 :: s2 :: s3 :: s4 :: s5 :: s6 :: s7 :: s8 :: s9 :: s10 :: s11 :: s12 :: s13 :: s14 :: s15 :: s16 :: s17 :: s18 :: s19 :: s20 :: s.put q :: e) as qs := by simp [wb, h, putS, modS]
@[simp] theorem w21h {s0 s1 s2 s3 s4 s5 s6 s7 s8 s9 s10 s11 s12 s13 s14 s15 s16 s17 s18 s19 s20 : Sl} {s : Sl} {t : Sl} : List.set (s0 :: s1 :: s2 :: s3 :: s4 :: s5 :: s6 :: s7 :: s8 :: s9 :: s10 :: s11 :: s12 :: s13 :: s14 :: s15 :: s16 :: s17 :: s18 :: s19 :: s20 :: s :: e) 21 t = s0 :: s1 :: s2 :: s3 :: s4 :: s5 :: s6 :: s7 :: s8 :: s9 :: s10 :: s11 :: s12 :: s13 :: s14 :: s15 :: s16 :: s17 :: s18 :: s19 :: s20 :: t :: e := Eq.trans rfl rfl
@[simp] theorem w22a {s0 s1 s2 s3 s4 s5 s6 s7 s8 s9 s10 s11 s12 s13 s14 s15 s16 s17 s18 s19 s20 s21 : Sl} {s : Sl} : slot (s0 :: s1 :: s2 :: s3 :: s4 :: s5 :: s6 :: s7 :: s8 :: s9 :: s10 :: s11 :: s12 :: s13 :: s14 :: s15 :: s16 :: s17 :: s18 :: s19 :: s20 :: s21 :: s :: e) 22 = s.cont := Eq.trans rfl rfl
@[simp] theorem w22b {s0 s1 s2 s3 s4 s5 s6 s7 s8 s9 s10 s11 s12 s13 s14 s15 s16 s17 s18 s19 s20 s21 : Sl} {s : Sl} {o : O} : putS (s0 :: s1 :: s2 :: s3 :: s4 :: s5 :: s6 :: s7 :: s8 :: s9 :: s10 :: s11 :: s12 :: s13 :: s14 :: s15 :: s16 :: s17 :: s18 :: s19 :: s20 :: s21 :: s :: e) 22 o = s0 :: s1 :: s2 :: s3 :: s4 :: s5 :: s6 :: s7 :: s8 :: s9 :: s10 :: s11 :: s12 :: s13 :: s14 :: s15 :: s16 :: s17 :: s18 :: s19 :: s20 :: s21 :: s.put o :: e := Eq.trans rfl rfl
@[simp] theorem w22c {s0 s1 s2 s3 s4 s5 s6 s7 s8 s9 s10 s11 s12 s13 s14 s15 s16 s17 s18 s19 s20 s21 : Sl} {s : Sl} : lentS (s0 :: s1 :: s2 :: s3 :: s4 :: s5 :: s6 :: s7 :: s8 :: s9 :: s10 :: s11 :: s12 :: s13 :: s14 :: s15 :: s16 :: s17 :: s18 :: s19 :: s20 :: s21 :: s :: e) 22 = s0 :: s1 :: s2 :: s3 :: s4 :: s5 :: s6 :: s7 :: s8 :: s9 :: s10 :: s11 :: s12 :: s13 :: s14 :: s15 :: s16 :: s17 :: s18 :: s19 :: s20 :: s21 :: s.lent :: e := Eq.trans rfl rfl
@[simp] theorem w22d {s0 s1 s2 s3 s4 s5 s6 s7 s8 s9 s10 s11 s12 s13 s14 s15 s16 s17 s18 s19 s20 s21 : Sl} {o : O} : setS (s0 :: s1 :: s2 :: s3 :: s4 :: s5 :: s6 :: s7 :: s8 :: s9 :: s10 :: s11 :: s12 :: s13 :: s14 :: s15 :: s16 :: s17 :: s18 :: s19 :: s20 :: s21 :: .no :: e) 22 o = some (s0 :: s1 :: s2 :: s3 :: s4 :: s5 :: s6 :: s7 :: s8 :: s9 :: s10 :: s11 :: s12 :: s13 :: s14 :: s15 :: s16 :: s17 :: s18 :: s19 :: s20 :: s21 :: .v o :: e) := Eq.trans rfl rfl
@[simp] theorem w22e {s0 s1 s2 s3 s4 s5 s6 s7 s8 s9 s10 s11 s12 s13 s14 s15 s16 s17 s18 s19 s20 s21 : Sl} {o x : O} : setS (s0 :: s1 :: s2 :: s3 :: s4 :: s5 :: s6 :: s7 :: s8 :: s9 :: s10 :: s11 :: s12 :: s13 :: s14 :: s15 :: s16 :: s17 :: s18 :: s19 :: s20 :: s21 :: .v x :: e) 22 o = some (s0 :: s1 :: s2 :: s3 :: s4 :: s5 :: s6 :: s7 :: s8 :: s9 :: s10 :: s11 :: s12 :: s13 :: s14 :: s15 :: s16 :: s17 :: s18 :: s19 :: s20 :: s21 :: .v o :: e) := Eq.trans rfl rfl
@[simp] theorem w22i {s0 s1 s2 s3 s4 s5 s6 s7 s8 s9 s10 s11 s12 s13 s14 s15 s16 s17 s18 s19 s20 s21 : Sl} {s : Sl} {o : O} (h : s.pinned = false) : setS (s0 :: s1 :: s2 :: s3 :: s4 :: s5 :: s6 :: s7 :: s8 :: s9 :: s10 :: s11 :: s12 :: s13 :: s14 :: s15 :: s16 :: s17 :: s18 :: s19 :: s20 :: s21 :: s :: e) 22 o = some (s0 :: s1 :: s2 :: s3 :: s4 :: s5 :: s6 :: s7 :: s8 :: s9 :: s10 :: s11 :: s12 :: s13 :: s14 :: s15 :: s16 :: s17 :: s18 :: s19 :: s20 :: s21 :: .v o :: e) := by simp [setS, h]
@[simp] theorem w22f {s0 s1 s2 s3 s4 s5 s6 s7 s8 s9 s10 s11 s12 s13 s14 s15 s16 s17 s18 s19 s20 s21 : Sl} {o : O} : dMove 22 (s0 :: s1 :: s2 :: s3 :: s4 :: s5 :: s6 :: s7 :: s8 :: s9 :: s10 :: s11 :: s12 :: s13 :: s14 :: s15 :: s16 :: s17 :: s18 :: s19 :: s20 :: s21 :: .v o :: e) = .ok o (s0 :: s1 :: s2 :: s3 :: s4 :: s5 :: s6 :: s7 :: s8 :: s9 :: s10 :: s11 :: s12 :: s13 :: s14 :: s15 :: s16 :: s17 :: s18 :: s19 :: s20 :: s21 :: .no :: e) := Eq.trans rfl rfl
@[simp] theorem w22g {s0 s1 s2 s3 s4 s5 s6 s7 s8 s9 s10 s11 s12 s13 s14 s15 s16 s17 s18 s19 s20 s21 : Sl} {s : Sl} {o q : O} {as : List Ag} {qs : List (Option O)} (h : s.cont = none) : wb (s0 :: s1 :: s2 :: s3 :: s4 :: s5 :: s6 :: s7 :: s8 :: s9 :: s10 :: s11 :: s12 :: s13 :: s14 :: s15 :: s16 :: s17 :: s18 :: s19 :: s20 :: s21 :: s :: e) ((o, some 22) :: as) (some q :: qs) = wb (s0 :: s1 :: s2 :: s3 :: s4 :: s5 :: s6 :: s7 :: s8 :: s9 :: s10 :: s11 :: s12 :: s13 :: s14 :: s15 :: s16 :: s17 :: s18 :: s19 :: s20 :: s21 :: s.put q :: e) as qs := by simp [wb, h, putS, modS]
@[simp] theorem w22h {s0 s1 s2 s3 s4 s5 s6 s7 s8 s9 s10 s11 s12 s13 s14 s15 s16 s17 s18 s19 s20 s21 : Sl} {s : Sl} {t : Sl} : List.set (s0 :: s1 :: s2 :: s3 :: s4 :: s5 :: s6 :: s7 :: s8 :: s9 :: s10 :: s11 :: s12 :: s13 :: s14 :: s15 :: s16 :: s17 :: s18 :: s19 :: s20 :: s21 :: s :: e) 22 t = s0 :: s1 :: s2 :: s3 :: s4 :: s5 :: s6 :: s7 :: s8 :: s9 :: s10 :: s11 :: s12 :: s13 :: s14 :: s15 :: s16 :: s17 :: s18 :: s19 :: s20 :: s21 :: t :: e := Eq.trans rfl rfl
@[simp] theorem w23a {s0 s1 s2 s3 s4 s5 s6 s7 s8 s9 s10 s11 s12 s13 s14 s15 s16 s17 s18 s19 s20 s21 s22 : Sl} {s : Sl} : slot (s0 :: s1 :: s2 :: s3 :: s4 :: s5 :: s6 :: s7 :: s8 :: s9 :: s10 :: s11 :: s12 :: s13 :: s14 :: s15 :: s16 :: s17 :: s18 :: s19 :: s20 :: s21 :: s22 :: s :: e) 23 = s.cont := Eq.trans rfl rfl
@[simp] theorem w23b {s0 s1 s2 s3 s4 s5 s6 s7 s8 s9 s10 s11 s12 s13 s14 s15 s16 s17 s18 s19 s20 s21 s22 : Sl} {s : Sl} {o : O} : putS (s0 :: s1 :: s2 :: s3 :: s4 :: s5 :: s6 :: s7 :: s8 :: s9 :: s10 :: s11 :: s12 :: s13 :: s14 :: s15 :: s16 :: s17 :: s18 :: s19 :: s20 :: s21 :: s22 :: s :: e) 23 o = s0 :: s1 :: s2 :: s3 :: s4 :: s5 :: s6 :: s7 :: s8 :: s9 :: s10 :: s11 :: s12 :: s13 :: s14 :: s15 :: s16 :: s17 :: s18 :: s19 :: s20 :: s21 :: s22 :: s.put o :: e := Eq.trans rfl rfl
@[simp] theorem w23c {s0 s1 s2 s3 s4 s5 s6 s7 s8 s9 s10 s11 s12 s13 s14 s15 s16 s17 s18 s19 s20 s21 s22 : Sl} {s : Sl} : lentS (s0 :: s1 :: s2 :: s3 :: s4 :: s5 :: s6 :: s7 :: s8 :: s9 :: s10 :: s11 :: s12 :: s13 :: s14 :: s15 :: s16 :: s17 :: s18 :: s19 :: s20 :: s21 :: s22 :: s :: e) 23 = s0 :: s1 :: s2 :: s3 :: s4 :: s5 :: s6 :: s7 :: s8 :: s9 :: s10 :: s11 :: s12 :: s13 :: s14 :: s15 :: s16 :: s17 :: s18 :: s19 :: s20 :: s21 :: s22 :: s.lent :: e := Eq.trans rfl rfl
@[simp] theorem w23d {s0 s1 s2 s3 s4 s5 s6 s7 s8 s9 s10 s11 s12 s13 s14 s15 s16 s17 s18 s19 s20 s21 s22 : Sl} {o : O} : setS (s0 :: s1 :: s2 :: s3 :: s4 :: s5 :: s6 :: s7 :: s8 :: s9 :: s10 :: s11 :: s12 :: s13 :: s14 :: s15 :: s16 :: s17 :: s18 :: s19 :: s20 :: s21 :: s22 :: .no :: e) 23 o = some (s0 :: s1 :: s2 :: s3 :: s4 :: s5 :: s6 :: s7 :: s8 :: s9 :: s10 :: s11 :: s12 :: s13 :: s14 :: s15 :: s16 :: s17 :: s18 :: s19 :: s20 :: s21 :: s22 :: .v o :: e) := Eq.trans rfl rfl
@[simp] theorem w23e {s0 s1 s2 s3 s4 s5 s6 s7 s8 s9 s10 s11 s12 s13 s14 s15 s16 s17 s18 s19 s20 s21 s22 : Sl} {o x : O} : setS (s0 :: s1 :: s2 :: s3 :: s4 :: s5 :: s6 :: s7 :: s8 :: s9 :: s10 :: s11 :: s12 :: s13 :: s14 :: s15 :: s16 :: s17 :: s18 :: s19 :: s20 :: s21 :: s22 :: .v x :: e) 23 o = some (s0 :: s1 :: s2 :: s3 :: s4 :: s5 :: s6 :: s7 :: s8 :: s9 :: s10 :: s11 :: s12 :: s13 :: s14 :: s15 :: s16 :: s17 :: s18 :: s19 :: s20 :: s21 :: s22 :: .v o :: e) := Eq.trans rfl rfl
@[simp] theorem w23i {s0 s1 s2 s3 s4 s5 s6 s7 s8 s9 s10 s11 s12 s13 s14 s15 s16 s17 s18 s19 s20 s21 s22 : Sl} {s : Sl} {o : O} (h : s.pinned = false) : setS (s0 :: s1 :: s2 :: s3 :: s4 :: s5 :: s6 :: s7 :: s8 :: s9 :: s10 :: s11 :: s12 :: s13 :: s14 :: s15 :: s16 :: s17 :: s18 :: s19 :: s20 :: s21 :: s22 :: s :: e) 23 o = some (s0 :: s1 :: s2 :: s3 :: s4 :: s5 :: s6 :: s7 :: s8 :: s9 :: s10 :: s11 :: s12 :: s13 :: s14 :: s15 :: s16 :: s17 :: s18 :: s19 :: s20 :: s21 :: s22 :: .v o :: e) := by simp [setS, h]
@[simp] theorem w23f {s0 s1 s2 s3 s4 s5 s6 s7 s8 s9 s10 s11 s12 s13 s14 s15 s16 s17 s18 s19 s20 s21 s22 : Sl} {o : O} : dMove 23 (s0 :: s1 :: s2 :: s3 :: s4 :: s5 :: s6 :: s7 :: s8 :: s9 :: s10 :: s11 :: s12 :: s13 :: s14 :: s15 :: s16 :: s17 :: s18 :: s19 :: s20 :: s21 :: s22 :: .v o :: e) = .ok o (s0 :: s1 :: s2 :: s3 :: s4 :: s5 :: s6 :: s7 :: s8 :: s9 :: s10 :: s11 :: s12 :: s13 :: s14 :: s15 :: s16 :: s17 :: s18 :: s19 :: s20 :: s21 :: s22 :: .no :: e) := Eq.trans rfl rfl
@[simp] theorem w23g {s0 s1 s2 s3 s4 s5 s6 s7 s8 s9 s10 s11 s12 s13 s14 s15 s16 s17 s18 s19 s20 s21 s22 : Sl} {s : Sl} {o q : O} {as : List Ag} {qs : List (Option O)} (h : s.cont = none) : wb (s0 :: s1 :: s2 :: s3 :: s4 :: s5 :: s6 :: s7 :: s8 :: s9 :: s10 :: s11 :: s12 :: s13 :: s14 :: s15 :: s16 :: s17 :: s18 :: s19 :: s20 :: s21 :: s22 :: s :: e) ((o, some 23) :: as) (some q :: qs) = wb (s0 :: s1 :: s2 :: s3 :: s4 :: s5 :: s6 :: s7 :: s8 :: s9 :: s10 :: s11 :: s12 :: s13 :: s14 :: s15 :: s16 :: s17 :: s18 :: s19 :: s20 :: s21 :: s22 :: s.put q :: e) as qs := by simp [wb, h, putS, modS]
@[simp] theorem w23h {s0 s1 s2 s3 s4 s5 s6 s7 s8 s9 s10 s11 s12 s13 s14 s15 s16 s17 s18 s19 s20 s21 s22 : Sl} {s : Sl} {t : Sl} : List.set (s0 :: s1 :: s2 :: s3 :: s4 :: s5 :: s6 :: s7 :: s8 :: s9 :: s10 :: s11 :: s12 :: s13 :: s14 :: s15 :: s16 :: s17 :: s18 :: s19 :: s20 :: s21 :: s22 :: s :: e) 23 t = s0 :: s1 :: s2 :: s3 :: s4 :: s5 :: s6 :: s7 :: s8 :: s9 :: s10 :: s11 :: s12 :: s13 :: s14 :: s15 :: s16 :: s17 :: s18 :: s19 :: s20 :: s21 :: s22 :: t :: e := Eq.trans rfl rfl
@[simp] theorem w24a {s0 s1 s2 s3 s4 s5 s6 s7 s8 s9 s10 s11 s12 s13 s14 s15 s16 s17 s18 s19 s20 s21 s22 s23 : Sl} {s : Sl} : slot (s0 :: s1 :: s2 :: s3 :: s4 :: s5 :: s6 :: s7 :: s8 :: s9 :: s10 :: s11 :: s12 :: s13 :: s14 :: s15 :: s16 :: s17 :: s18 :: s19 :: s20 :: s21 :: s22 :: s23 :: s :: e) 24 = s.cont := Eq.trans rfl rfl
@[simp] theorem w24b {s0 s1 s2 s3 s4 s5 s6 s7 s8 s9 s10 s11 s12 s13 s14 s15 s16 s17 s18 s19 s20 s21 s22 s23 : Sl} {s : Sl} {o : O} : putS (s0 :: s1 :: s2 :: s3 :: s4 :: s5 :: s6 :: s7 :: s8 :: s9 :: s10 :: s11 :: s12 :: s13 :: s14 :: s15 :: s16 :: s17 :: s18 :: s19 :: s20 :: s21 :: s22 :: s23 :: s :: e) 24 o = s0 :: s1 :: s2 :: s3 :: s4 :: s5 :: s6 :: s7 :: s8 :: s9 :: s10 :: s11 :: s12 :: s13 :: s14 :: s15 :: s16 :: s17 :: s18 :: s19 :: s20 :: s21 :: s22 :: s23 :: s.put o :: e := Eq.trans rfl rfl
@[simp] theorem w24c {s0 s1 s2 s3 s4 s5 s6 s7 s8 s9 s10 s11 s12 s13 s14 s15 s16 s17 s18 s19 s20 s21 s22 s23 : Sl} {s : Sl} : lentS (s0 :: s1 :: s2 :: s3 :: s4 :: s5 :: s6 :: s7 :: s8 :: s9 :: s10 :: s11 :: s12 :: s13 :: s14 :: s15 :: s16 :: s17 :: s18 :: s19 :: s20 :: s21 :: s22 :: s23 :: s :: e) 24 = s0 :: s1 :: s2 :: s3 :: s4 :: s5 :: s6 :: s7 :: s8 :: s9 :: s10 :: s11 :: s12 :: s13 :: s14 :: s15 :: s16 :: s17 :: s18 :: s19 :: s20 :: s21 :: s22 :: s23 :: s.lent :: e := Eq.trans rfl rfl
@[simp] theorem w24d {s0 s1 s2 s3 s4 s5 s6 s7 s8 s9 s10 s11 s12 s13 s14 s15 s16 s17 s18 s19 s20 s21 s22 s23 : Sl} {o : O} : setS (s0 :: s1 :: s2 :: s3 :: s4 :: s5 :: s6 :: s7 :: s8 :: s9 :: s10 :: s11 :: s12 :: s13 :: s14 :: s15 :: s16 :: s17 :: s18 :: s19 :: s20 :: s21 :: s22 :: s23 :: .no :: e) 24 o = some (s0 :: s1 :: s2 :: s3 :: s4 :: s5 :: s6 :: s7 :: s8 :: s9 :: s10 :: s11 :: s12 :: s13 :: s14 :: s15 :: s16 :: s17 :: s18 :: s19 :: s20 :: s21 :: s22 :: s23 :: .v o :: e) := Eq.trans rfl rfl
@[simp] theorem w24e {s0 s1 s2 s3 s4 s5 s6 s7 s8 s9 s10 s11 s12 s13 s14 s15 s16 s17 s18 s19 s20 s21 s22 s23 : Sl} {o x : O} : setS (s0 :: s1 :: s2 :: s3 :: s4 :: s5 :: s6 :: s7 :: s8 :: s9 :: s10 :: s11 :: s12 :: s13 :: s14 :: s15 :: s16 :: s17 :: s18 :: s19 :: s20 :: s21 :: s22 :: s23 :: .v x :: e) 24 o = some (s0 :: s1 :: s2 :: s3 :: s4 :: s5 :: s6 :: s7 :: s8 :: s9 :: s10 :: s11 :: s12 :: s13 :: s14 :: s15 :: s16 :: s17 :: s18 :: s19 :: s20 :: s21 :: s22 :: s23 :: .v o :: e) := Eq.trans rfl rfl
@[simp] theorem w24i {s0 s1 s2 s3 s4 s5 s6 s7 s8 s9 s10 s11 s12 s13 s14 s15 s16 s17 s18 s19 s20 s21 s22 s23 : Sl} {s : Sl} {o : O} (h : s.pinned = false) : setS (s0 :: s1 :: s2 :: s3 :: s4 :: s5 :: s6 :: s7 :: s8 :: s9 :: s10 :: s11 :: s12 :: s13 :: s14 :: s15 :: s16 :: s17 :: s18 :: s19 :: s20 :: s21 :: s22 :: s23 :: s :: e) 24 o = some (s0 :: s1 :: s2 :: s3 :: s4 :: s5 :: s6 :: s7 :: s8 :: s9 :: s10 :: s11 :: s12 :: s13 :: s14 :: s15 :: s16 :: s17 :: s18 :: s19 :: s20 :: s21 :: s22 :: s23 :: .v o :: e) := by simp [setS, h]
@[simp] theorem w24f {s0 s1 s2 s3 s4 s5 s6 s7 s8 s9 s10 s11 s12 s13 s14 s15 s16 s17 s18 s19 s20 s21 s22 s23 : Sl} {o : O} : dMove 24 (s0 :: s1 :: s2 :: s3 :: s4 :: s5 :: s6 :: s7 :: s8 :: s9 :: s10 :: s11 :: s12 :: s13 :: s14 :: s15 :: s16 :: s17 :: s18 :: s19 :: s20 :: s21 :: s22 :: s23 :: .v o :: e) = .ok o (s0 :: s1 :: s2 :: s3 :: s4 :: s5 :: s6 :: s7 :: s8 :: s9 :: s10 :: s11 :: s12 :: s13 :: s14 :: s15 :: s16 :: s17 :: s18 :: s19 :: s20 :: s21 :: s22 :: s23 :: .no :: e) := Eq.trans rfl rfl
@[simp] theorem w24g {s0 s1 s2 s3 s4 s5 s6 s7 s8 s9 s10 s11 s12 s13 s14 s15 s16 s17 s18 s19 s20 s21 s22 s23 : Sl} {s : Sl} {o q : O} {as : List Ag} {qs : List (Option O)} (h : s.cont = none) : wb (s0 :: s1 :: s2 :: s3 :: s4 :: s5 :: s6 :: s7 :: s8 :: s9 :: s10 :: s11 :: s12 :: s13 :: s14 :: s15 :: s16 :: s17 :: s18 :: s19 :: s20 :: s21 :: s22 :: s23 :: s :: e) ((o, some 24) :: as) (some q :: qs) = wb (s0 :: s1 :: s2 :: s3 :: s4 :: s5 :: s6 :: s7 :: s8 :: s9 :: s10 :: s11 :: s12 :: s13 :: s14 :: s15 :: s16 :: s17 :: s18 :: s19 :: s20 :: s21 :: s22 :: s23 :: s.put q :: e) as qs := by simp [wb, h, putS, modS]
@[simp] theorem w24h {s0 s1 s2 s3 s4 s5 s6 s7 s8 s9 s10 s11 s12 s13 s14 s15 s16 s17 s18 s19 s20 s21 s22 s23 : Sl} {s : Sl} {t : Sl} : List.set (s0 :: s1 :: s2 :: s3 :: s4 :: s5 :: s6 :: s7 :: s8 :: s9 :: s10 :: s11 :: s12 :: s13 :: s14 :: s15 :: s16 :: s17 :: s18 :: s19 :: s20 :: s21 :: s22 :: s23 :: s :: e) 24 t = s0 :: s1 :: s2 :: s3 :: s4 :: s5 :: s6 :: s7 :: s8 :: s9 :: s10 :: s11 :: s12 :: s13 :: s14 :: s15 :: s16 :: s17 :: s18 :: s19 :: s20 :: s21 :: s22 :: s23 :: t :: e := Eq.trans rfl rfl
@[simp] theorem w25a {s0 s1 s2 s3 s4 s5 s6 s7 s8 s9 s10 s11 s12 s13 s14 s15 s16 s17 s18 s19 s20 s21 s22 s23 s24 : Sl} {s : Sl} : slot (s0 :: s1 :: s2 :: s3 :: s4 :: s5 :: s6 :: s7 :: s8 :: s9 :: s10 :: s11 :: s12 :: s13 :: s14 :: s15 :: s16 :: s17 :: s18 :: s19 :: s20 :: s21 :: s22 :: s23 :: s24 :: s :: e) 25 = s.cont := Eq.trans rfl rfl
@[simp] theorem w25b {s0 s1 s2 s3 s4 s5 s6 s7 s8 s9 s10 s11 s12 s13 s14 s15 s16 s17 s18 s19 s20 s21 s22 s23 s24 : Sl} {s : Sl} {o : O} : putS (s0 :: s1 :: s2 :: s3 :: s4 :: s5 :: s6 :: s7 :: s8 :: s9 :: s10 :: s11 :: s12 :: s13 :: s14 :: s15 :: s16 :: s17 :: s18 :: s19 :: s20 :: s21 :: s22 :: s23 :: s24 :: s :: e) 25 o = s0 :: s1 :: s2 :: s3 :: s4 :: s5 :: s6 :: s7 :: s8 :: s9 :: s10 :: s11 :: s12 :: s13 :: s14 :: s15 :: s16 :: s17 :: s18 :: s19 :: s20 :: s21 :: s22 :: s23 :: s24 :: s.put o :: e := Eq.trans rfl rfl
@[simp] theorem w25c {s0 s1 s2 s3 s4 s5 s6 s7 s8 s9 s10 s11 s12 s13 s14 s15 s16 s17 s18 s19 s20 s21 s22 s23 s24 : Sl} {s : Sl} : lentS (s0 :: s1 :: s2 :: s3 :: s4 :: s5 :: s6 :: s7 :: s8 :: s9 :: s10 :: s11 :: s12 :: s13 :: s14 :: s15 :: s16 :: s17 :: s18 :: s19 :: s20 :: s21 :: s22 :: s23 :: s24 :: s :: e) 25 = s0 :: s1 :: s2 :: s3 :: s4 :: s5 :: s6 :: s7 :: s8 :: s9 :: s10 :: s11 :: s12 :: s13 :: s14 :: s15 :: s16 :: s17 :: s18 :: s19 :: s20 :: s21 :: s22 :: s23 :: s24 :: s.lent :: e := Eq.trans rfl rfl
@[simp] theorem w25d {s0 s1 s2 s3 s4 s5 s6 s7 s8 s9 s10 s11 s12 s13 s14 s15 s16 s17 s18 s19 s20 s21 s22 s23 s24 : Sl} {o : O} : setS (s0 :: s1 :: s2 :: s3 :: s4 :: s5 :: s6 :: s7 :: s8 :: s9 :: s10 :: s11 :: s12 :: s13 :: s14 :: s15 :: s16 :: s17 :: s18 :: s19 :: s20 :: s21 :: s22 :: s23 :: s24 :: .no :: e) 25 o = some (s0 :: s1 :: s2 :: s3 :: s4 :: s5 :: s6 :: s7 :: s8 :: s9 :: s10 :: s11 :: s12 :: s13 :: s14 :: s15 :: s16 :: s17 :: s18 :: s19 :: s20 :: s21 :: s22 :: s23 :: s24 :: .v o :: e) := Eq.trans rfl rfl
@[simp] theorem w25e {s0 s1 s2 s3 s4 s5 s6 s7 s8 s9 s10 s11 s12 s13 s14 s15 s16 s17 s18 s19 s20 s21 s22 s23 s24 : Sl} {o x : O} : setS (s0 :: s1 :: s2 :: s3 :: s4 :: s5 :: s6 :: s7 :: s8 :: s9 :: s10 :: s11 :: s12 :: s13 :: s14 :: s15 :: s16 :: s17 :: s18 :: s19 :: s20 :: s21 :: s22 :: s23 :: s24 :: .v x :: e) 25 o = some (s0 :: s1 :: s2 :: s3 :: s4 :: s5 :: s6 :: s7 :: s8 :: s9 :: s10 :: s11 :: s12 :: s13 :: s14 :: s15 :: s16 :: s17 :: s18 :: s19 :: s20 :: s21 :: s22 :: s23 :: s24 :: .v o :: e) := Eq.trans rfl rfl
@[simp] theorem w25i {s0 s1 s2 s3 s4 s5 s6 s7 s8 s9 s10 s11 s12 s13 s14 s15 s16 s17 s18 s19 s20 s21 s22 s23 s24 : Sl} {s : Sl} {o : O} (h : s.pinned = false) : setS (s0 :: s1 :: s2 :: s3 :: s4 :: s5 :: s6 :: s7 :: s8 :: s9 :: s10 :: s11 :: s12 :: s13 :: s14 :: s15 :: s16 :: s17 :: s18 :: s19 :: s20 :: s21 :: s22 :: s23 :: s24 :: s :: e) 25 o = some (s0 :: s1 :: s2 :: s3 :: s4 :: s5 :: s6 :: s7 :: s8 :: s9 :: s10 :: s11 :: s12 :: s13 :: s14 :: s15 :: s16 :: s17 :: s18 :: s19 :: s20 :: s21 :: s22 :: s23 :: s24 :: .v o :: e) := by simp [setS, h]
@[simp] theorem w25f {s0 s1 s2 s3 s4 s5 s6 s7 s8 s9 s10 s11 s12 s13 s14 s15 s16 s17 s18 s19 s20 s21 s22 s23 s24 : Sl} {o : O} : dMove 25 (s0 :: s1 :: s2 :: s3 :: s4 :: s5 :: s6 :: s7 :: s8 :: s9 :: s10 :: s11 :: s12 :: s13 :: s14 :: s15 :: s16 :: s17 :: s18 :: s19 :: s20 :: s21 :: s22 :: s23 :: s24 :: .v o :: e) = .ok o (s0 :: s1 :: s2 :: s3 :: s4 :: s5 :: s6 :: s7 :: s8 :: s9 :: s10 :: s11 :: s12 :: s13 :: s14 :: s15 :: s16 :: s17 :: s18 :: s19 :: s20 :: s21 :: s22 :: s23 :: s24 :: .no :: e) := Eq.trans rfl rfl
@[simp] theorem w25g {s0 s1 s2 s3 s4 s5 s6 s7 s8 s9 s10 s11 s12 s13 s14 s15 s16 s17 s18 s19 s20 s21 s22 s23 s24 : Sl} {s : Sl} {o q : O} {as : List Ag} {qs : List (Option O)} (h : s.cont = none) : wb (s0 :: s1 :: s2 :: s3 :: s4 :: s5 :: s6 :: s7 :: s8 :: s9 :: s10 :: s11 :: s12 :: s13 :: s14 :: s15 :: s16 :: s17 :: s18 :: s19 :: s20 :: s21 :: s22 :: s23 :: s24 :: s :: e) ((o, some 25) :: as) (some q :: qs) = wb (s0 :: s1 :: s2 :: s3 :: s4 :: s5 :: s6 :: s7 :: s8 :: s9 :: s10 :: s11 :: s12 :: s13 :: s14 :: s15 :: s16 :: s17 :: s18 :: s19 :: s20 :: s21 :: s22 :: s23 :: s24 :: s.put q :: e) as qs := by simp [wb, h, putS, modS]
@[simp] theorem w25h {s0 s1 s2 s3 s4 s5 s6 s7 s8 s9 s10 s11 s12 s13 s14 s15 s16 s17 s18 s19 s20 s21 s22 s23 s24 : Sl} {s : Sl} {t : Sl} : List.set (s0 :: s1 :: s2 :: s3 :: s4 :: s5 :: s6 :: s7 :: s8 :: s9 :: s10 :: s11 :: s12 :: s13 :: s14 :: s15 :: s16 :: s17 :: s18 :: s19 :: s20 :: s21 :: s22 :: s23 :: s24 :: s :: e) 25 t = s0 :: s1 :: s2 :: s3 :: s4 :: s5 :: s6 :: s7 :: s8 :: s9 :: s10 :: s11 :: s12 :: s13 :: s14 :: s15 :: s16 :: s17 :: s18 :: s19 :: s20 :: s21 :: s22 :: s23 :: s24 :: t :: e := Eq.trans rfl rfl
@[simp] theorem v11 {o : O} : Sl.pinned (.v o) = false := Eq.trans rfl rfl
@[simp] theorem v12 : Sl.pinned .no = false := Eq.trans rfl rfl
@[simp] theorem u1 {t : Tg} {b : En → Out} : sForL t b [] e = .nx e := Eq.trans rfl rfl
def forK (t : Tg) (b : En → Out) (ds : List D) : Out → Out
  | .nx e2 => sForL t b ds e2
  | .ct e2 => sForL t b ds e2
  | .bk e2 => .nx e2
  | r => r
def forT (t : Tg) (b : En → Out) (ds : List D) : Option En → Out
  | none => .bad
  | some e1 => forK t b ds (b e1)
theorem u2 {t : Tg} {b : En → Out} {d : D} {ds : List D} : sForL t b (d :: ds) e = forT t b ds (t (.d d) e) := by
  show (match t (.d d) e with
    | none => Out.bad
    | some e1 => match b e1 with
      | .nx e2 => sForL t b ds e2
      | .ct e2 => sForL t b ds e2
      | .bk e2 => .nx e2
      | r => r) = _
  unfold forT forK
  cases t (.d d) e with
  | none => rfl
  | some e1 => cases h : b e1 <;> simp [h]
@[simp] theorem u3 {t : Tg} {b : En → Out} {ds : List D} : forT t b ds (some e) = forK t b ds (b e) := Eq.trans rfl rfl
@[simp] theorem u4 {t : Tg} {b : En → Out} {ds : List D} : forK t b ds (.nx e) = sForL t b ds e := Eq.trans rfl rfl
@[simp] theorem u5 {t : Tg} {b : En → Out} {ds : List D} {o : O} : forK t b ds (.rt o e) = .rt o e := Eq.trans rfl rfl
@[simp] theorem u6 {t : Tg} {b : En → Out} {ds : List D} : forK t b ds (.exc c ps e) = .exc c ps e := Eq.trans rfl rfl
@[simp] theorem u7 {t : Tg} {b : En → Out} {ds : List D} : forK t b ds (.bk e) = .nx e := Eq.trans rfl rfl
@[simp] theorem u8 {t : Tg} {b : En → Out} {ds : List D} : forK t b ds (.ct e) = sForL t b ds e := Eq.trans rfl rfl
@[simp] theorem v1 {o : O} : Sl.cont (.v o) = some o := Eq.trans rfl rfl
@[simp] theorem v2 {o : O} : Sl.cont (.p o) = some o := Eq.trans rfl rfl
@[simp] theorem v3 : Sl.cont .no = none := Eq.trans rfl rfl
@[simp] theorem v4 : Sl.cont .pn = none := Eq.trans rfl rfl
@[simp] theorem v5 {o q : O} : Sl.put (.v o) q = .v q := Eq.trans rfl rfl
@[simp] theorem v6 {o q : O} : Sl.put (.p o) q = .p q := Eq.trans rfl rfl
@[simp] theorem v7 {q : O} : Sl.put .no q = .v q := Eq.trans rfl rfl
@[simp] theorem v8 {q : O} : Sl.put .pn q = .p q := Eq.trans rfl rfl
@[simp] theorem v9 {o : O} : Sl.lent (.v o) = .no := Eq.trans rfl rfl
@[simp] theorem v10 {o : O} : Sl.lent (.p o) = .pn := Eq.trans rfl rfl
end
end MX

/-! MXu: from a body's end to its def's. -/
namespace MX
open PySem L2
theorem den_rt {mask : List Bool} {os : List O} {n : Nat} {b : En → Out} {o : O} {e e0 : En} {ps : List (Option O)} (h0 : initE mask os n = e0) (h : b e0 = .rt o e) (hp : outE mask.length e = ps) : denFn mask n b os = .ok o ps := by
  unfold denFn
  rw [h0, h, ← hp]
theorem den_nx {mask : List Bool} {os : List O} {n : Nat} {b : En → Out} {e e0 : En} {ps : List (Option O)} (h0 : initE mask os n = e0) (h : b e0 = .nx e) (hp : outE mask.length e = ps) : denFn mask n b os = .ok (.d .non) ps := by
  unfold denFn
  rw [h0, h, ← hp]
theorem den_ex {mask : List Bool} {os : List O} {n : Nat} {b : En → Out} {c : String} {pl : List (Str × D)} {e e0 : En} {ps : List (Option O)} (h0 : initE mask os n = e0) (h : b e0 = .exc c pl e) (hp : outE mask.length e = ps) : denFn mask n b os = .exc c pl ps := by
  unfold denFn
  rw [h0, h, ← hp]
end MX

namespace K73
open PySem L2 MX
def mixed (n t m : Int) : Int :=
  let once := (n * 48271 + t * 1000000000039 + 12345678910111213) % 2305843009213693951
  let twice := ((once * once + t) * 7046029254386353) % 2305843009213693951
  twice / 8 % m
theorem v_mixed (n t m : Int) (hm : 0 < m) : d__law_mixed [.d (.int n), .d (.int t), .d (.int m)] = .ok (.d (.int (mixed n t m))) [some (.d (.int n)), some (.d (.int t)), some (.d (.int m))] := by
  have h1 : isSm 48271 = true := by decide
  have h2 : isSm 1000000000039 = true := by decide
  have h3 : isSm 7046029254386353 = true := by decide
  have h4 : ∀ x : Int, isSm (x % 2305843009213693951) = true := fun x => sm_of (by omega) (by omega)
  simp [d__law_mixed, denFn, b__law_mixed, initE, outE, mixed, y16, y17, y18, h1, h2, h3, h4, hm, List.replicate]
def keys7 : List Key := [Sum.inr (Str.ofString "cells"), Sum.inr (Str.ofString "at"), Sum.inr (Str.ofString "rest"), Sum.inr (Str.ofString "left"), Sum.inr (Str.ofString "small"), Sum.inr (Str.ofString "seed"), Sum.inr (Str.ofString "turn")]
def pool (cells : List Int) (at_ rest left : Int) (small : Bool) (seed turn : Int) : O := .dic keys7 [.d (.lst (cells.map .int)), .d (.int at_), .d (.int rest), .d (.int left), .d (.bl small), .d (.int seed), .d (.int turn)]
section
variable {cells : List Int} {at_ rest left : Int} {small : Bool} {seed turn : Int} {o : O}
@[simp] theorem g_cells : fIx (pool cells at_ rest left small seed turn) (.d (.str (Str.ofString "cells"))) = some (.d (.lst (cells.map .int))) := by rfl
@[simp] theorem g_at : fIx (pool cells at_ rest left small seed turn) (.d (.str (Str.ofString "at"))) = some (.d (.int at_)) := by rfl
@[simp] theorem g_rest : fIx (pool cells at_ rest left small seed turn) (.d (.str (Str.ofString "rest"))) = some (.d (.int rest)) := by rfl
@[simp] theorem g_left : fIx (pool cells at_ rest left small seed turn) (.d (.str (Str.ofString "left"))) = some (.d (.int left)) := by rfl
@[simp] theorem g_small : fIx (pool cells at_ rest left small seed turn) (.d (.str (Str.ofString "small"))) = some (.d (.bl small)) := by rfl
@[simp] theorem g_seed : fIx (pool cells at_ rest left small seed turn) (.d (.str (Str.ofString "seed"))) = some (.d (.int seed)) := by rfl
@[simp] theorem g_turn : fIx (pool cells at_ rest left small seed turn) (.d (.str (Str.ofString "turn"))) = some (.d (.int turn)) := by rfl
@[simp] theorem p_at {x : Int} : (pool cells at_ rest left small seed turn).store (.d (.str (Str.ofString "at"))) (.d (.int x)) = some (pool cells x rest left small seed turn) := by rfl
@[simp] theorem p_rest {x : Int} : (pool cells at_ rest left small seed turn).store (.d (.str (Str.ofString "rest"))) (.d (.int x)) = some (pool cells at_ x left small seed turn) := by rfl
@[simp] theorem p_left {x : Int} : (pool cells at_ rest left small seed turn).store (.d (.str (Str.ofString "left"))) (.d (.int x)) = some (pool cells at_ rest x small seed turn) := by rfl
@[simp] theorem p_small {x : Bool} : (pool cells at_ rest left small seed turn).store (.d (.str (Str.ofString "small"))) (.d (.bl x)) = some (pool cells at_ rest left x seed turn) := by rfl
@[simp] theorem p_turn {x : Int} : (pool cells at_ rest left small seed turn).store (.d (.str (Str.ofString "turn"))) (.d (.int x)) = some (pool cells at_ rest left small seed x) := by rfl
end
@[simp] theorem ix_ints {cells : List Int} {i : Int} (h : 0 ≤ i) (h2 : i < cells.length) : fIx (.d (.lst (cells.map .int))) (.d (.int i)) = some (.d (.int (cells.getD i.toNat 0))) := by
  have h3 : i.toNat < cells.length := by omega
  have e1 : atI (cells.map D.int) i = some (.int (cells.getD i.toNat 0)) := by
    have e2 : i = ((i.toNat : Nat) : Int) := by omega
    have e4 : (cells.map D.int)[i.toNat]? = some (.int (cells.getD i.toNat 0)) := by
      rw [List.getElem?_map, List.getElem?_eq_getElem h3, List.getD_eq_getElem?_getD, List.getElem?_eq_getElem h3]
      rfl
    have e5 := atI_nat e4
    rw [← e2] at e5
    exact e5
  show (match fIxL (.d (.lst (cells.map .int))) (.d (.int i)) with
    | some z => some z
    | none => _) = _
  have e3 : fIxL (.d (.lst (cells.map .int))) (.d (.int i)) = some (.d (.int (cells.getD i.toNat 0))) := by
    show (atI (cells.map D.int) i).map O.d = _
    rw [e1]
    rfl
  rw [e3]
theorem pow18 : fPow (.d (.int 10)) (.d (.int 18)) = some (.d (.int 1000000000000000000)) := by rfl
theorem sixty : fIx (.lst [.d (.int 60), .d (.int 2)]) (.d (.int 0)) = some (.d (.int 60)) := by rfl
theorem sixty1 : fIx (.lst [.d (.int 60), .d (.int 2)]) (.d (.int 1)) = some (.d (.int 2)) := by rfl
theorem size2 : 2 ≤ sizeLine := by decide
theorem mixed_lt {n t m : Int} (hm : 0 < m) : 0 ≤ mixed n t m ∧ mixed n t m < m := ⟨Int.emod_nonneg _ (by omega), Int.emod_lt_of_pos _ hm⟩
def Pool (cells : List Int) (o : O) : Prop := ∃ at_ rest left small seed turn, 0 ≤ at_ ∧ o = pool cells at_ rest left small seed turn
theorem take_spec {cells : List Int} {o : O} (m : Int) (hp : Pool cells o) (hm : 0 < m) (hm2 : m < 2 ^ 64) :
    ∃ d o', d__law_take [o, .d (.int m)] = .ok (.d (.int d)) [some o', some (.d (.int m))] ∧ 0 ≤ d ∧ d < m ∧ Pool cells o' := by
  obtain ⟨at_, rest, left, small, seed, turn, ha, rfl⟩ := hp
  have fin1 : ∀ (at1 rest1 left1 : Int) (small1 : Bool) (t1 : Int) (d : Int), 0 ≤ at1 → 0 ≤ d ∧ d < m → ∀ r, r = RF.ok (.d (.int d)) [some (pool cells at1 rest1 left1 small1 seed t1), some (.d (.int m))] → ∃ d o', r = .ok (.d (.int d)) [some o', some (.d (.int m))] ∧ 0 ≤ d ∧ d < m ∧ Pool cells o' :=
    fun at1 rest1 left1 small1 t1 d h1 h2 r hr => ⟨d, _, hr, h2.1, h2.2, at1, rest1, left1, small1, seed, t1, h1, rfl⟩
  have md : ∀ x : Int, 0 ≤ x % m ∧ x % m < m := fun x => ⟨Int.emod_nonneg _ (by omega), Int.emod_lt_of_pos _ hm⟩
  by_cases h1 : left = 0
  · by_cases h2 : at_ < cells.length
    · obtain ⟨c, hix⟩ : ∃ c, fIx (.d (.lst (cells.map .int))) (.d (.int at_)) = some (.d (.int c)) := ⟨_, ix_ints ha h2⟩
      by_cases h3 : c < 1000000000000000000
      · refine fin1 (at_ + 1) (c) (2 - 1) true (turn + 1) (mixed (c) (turn + 1) m) (by omega) (mixed_lt hm) _ ?_
        simp [d__law_take, denFn, b__law_take, initE, outE, List.replicate, h1, h2, h3, hix, pow18, sixty, sixty1, size2, v_mixed, hm]
      · by_cases h4 : c / m = 0
        · refine fin1 (at_ + 1) 0 0 false (turn + 1) (c % m) (by omega) (md _) _ ?_
          simp [d__law_take, denFn, b__law_take, initE, outE, List.replicate, h1, h2, h3, h4, hix, pow18, sixty, sixty1, size2, v_mixed, hm, y17, y18 hm hm2]
        · refine fin1 (at_ + 1) (c / m) (60 - 1) false (turn + 1) (c % m) (by omega) (md _) _ ?_
          simp [d__law_take, denFn, b__law_take, initE, outE, List.replicate, h1, h2, h3, h4, hix, pow18, sixty, sixty1, size2, v_mixed, hm, y17, y18 hm hm2]
    · refine fin1 at_ rest 0 small (turn + 1) (mixed seed (turn + 1) m) ha (mixed_lt hm) _ ?_
      simp [d__law_take, denFn, b__law_take, initE, outE, List.replicate, h1, h2, v_mixed, hm]
  · cases small with
    | true =>
      refine fin1 at_ rest (left - 1) true (turn + 1) (mixed rest (turn + 1) m) ha (mixed_lt hm) _ ?_
      simp [d__law_take, denFn, b__law_take, initE, outE, List.replicate, h1, v_mixed, hm]
    | false =>
      by_cases h4 : rest / m = 0
      · refine fin1 at_ 0 0 false (turn + 1) (rest % m) ha (md _) _ ?_
        simp [d__law_take, denFn, b__law_take, initE, outE, List.replicate, h1, h4, hm, y17, y18 hm hm2]
      · refine fin1 at_ (rest / m) (left - 1) false (turn + 1) (rest % m) ha (md _) _ ?_
        simp [d__law_take, denFn, b__law_take, initE, outE, List.replicate, h1, h4, hm, y17, y18 hm hm2]
end K73

namespace K73
open PySem L2 MX
/-- the switches: layer, place -/
def swL (n : Nat) : List (Nat × Nat) := (List.range n).flatMap fun l => ((List.range ((n - 1 - l % 2 + 1) / 2)).map fun k => (l, l % 2 + 2 * k))
def pairD (p : Nat × Nat) : D := .tup [.int p.1, .int p.2]
theorem v_lsw : ∀ n : Nat, n ≤ 12 → d__law_switches [.d (.int n)] = .ok (.lst (((swL n).map pairD).map .d)) [some (.d (.int n))]
  | 0, _ => by kernel_rfl
  | 1, _ => by kernel_rfl
  | 2, _ => by kernel_rfl
  | 3, _ => by kernel_rfl
  | 4, _ => by kernel_rfl
  | 5, _ => by kernel_rfl
  | 6, _ => by kernel_rfl
  | 7, _ => by kernel_rfl
  | 8, _ => by kernel_rfl
  | 9, _ => by kernel_rfl
  | 10, _ => by kernel_rfl
  | 11, _ => by kernel_rfl
  | 12, _ => by kernel_rfl
  | n + 13, h => by omega
theorem v_psw : ∀ n : Nat, n ≤ 12 → d__switches [.d (.int n)] = .ok (.lst (((swL n).map pairD).map .d)) [some (.d (.int n))]
  | 0, _ => by kernel_rfl
  | 1, _ => by kernel_rfl
  | 2, _ => by kernel_rfl
  | 3, _ => by kernel_rfl
  | 4, _ => by kernel_rfl
  | 5, _ => by kernel_rfl
  | 6, _ => by kernel_rfl
  | 7, _ => by kernel_rfl
  | 8, _ => by kernel_rfl
  | 9, _ => by kernel_rfl
  | 10, _ => by kernel_rfl
  | 11, _ => by kernel_rfl
  | 12, _ => by kernel_rfl
  | n + 13, h => by omega
theorem sw_in : ∀ n : Nat, n ≤ 12 → ∀ p ∈ swL n, p.2 + 1 < n := by decide +kernel
theorem sw_len : ∀ n : Nat, n ≤ 12 → (swL n).length = n * (n - 1) / 2 := by decide +kernel
/-! ### lists of ints that are owned -/
def il (l : List Int) : O := .lst (l.map fun i => .d (.int i))
theorem leafs_il (l : List Int) : leafs (l.map fun i => O.d (.int i)) = some (l.map .int) := by
  have := leafs_map (l.map D.int)
  rw [List.map_map] at this
  exact this
theorem ls_il (l : List Int) : (il l).ls = some (l.map .int) := leafs_il l
theorem ix_il {l : List Int} {i : Int} (h : 0 ≤ i) (h2 : i < l.length) : fIx (il l) (.d (.int i)) = some (.d (.int (l.getD i.toNat 0))) := by
  have h3 : i.toNat < l.length := by omega
  have e4 : (l.map D.int)[i.toNat]? = some (.int (l.getD i.toNat 0)) := by
    rw [List.getElem?_map, List.getElem?_eq_getElem h3, List.getD_eq_getElem?_getD, List.getElem?_eq_getElem h3]
    rfl
  have e5 := atI_nat e4
  have e2 : i = ((i.toNat : Nat) : Int) := by omega
  rw [← e2] at e5
  have e3 : fIxL (il l) (.d (.int i)) = some (.d (.int (l.getD i.toNat 0))) := by
    show (match (il l).ls with
      | some xs => (atI xs i).map O.d
      | none => none) = _
    rw [ls_il]
    show (atI (l.map D.int) i).map O.d = _
    rw [e5]
    rfl
  show (match fIxL (il l) (.d (.int i)) with
    | some z => some z
    | none => _) = _
  rw [e3]
theorem store_il {l : List Int} {i x : Int} (h : 0 ≤ i) (h2 : i < l.length) : (il l).store (.d (.int i)) (.d (.int x)) = some (il (l.set i.toNat x)) := by
  have e1 : ixN (l.map fun i => O.d (.int i)).length i = some i.toNat := by
    rw [List.length_map]
    unfold ixN
    rw [if_pos h, if_pos h2]
  show (ixN (l.map fun i => O.d (.int i)).length i).map (fun j => O.lst ((l.map fun i => O.d (.int i)).set j (.d (.int x)))) = _
  rw [e1]
  show some (O.lst ((l.map fun i => O.d (.int i)).set i.toNat (.d (.int x)))) = some (O.lst ((l.set i.toNat x).map fun i => O.d (.int i)))
  rw [List.map_set]
def swapN (l : List Int) (j : Nat) : List Int := (l.set j (l.getD (j + 1) 0)).set (j + 1) (l.getD j 0)
theorem swapN_len {l : List Int} {j : Nat} : (swapN l j).length = l.length := by unfold swapN; rw [List.length_set, List.length_set]
def runS : List (Nat × Nat) → List Int → List Int → List Int
  | p :: sw, s :: ss, l => runS sw ss (if s = 1 then swapN l p.2 else l)
  | _, _, l => l
theorem runS_len : ∀ {sw : List (Nat × Nat)} {ss l : List Int}, (runS sw ss l).length = l.length
  | [], _, _ => rfl
  | _ :: _, [], _ => rfl
  | p :: sw, s :: ss, l => by
    show (runS sw ss _).length = _
    rw [runS_len]
    split
    · exact swapN_len
    · rfl
theorem size2' : (2 : Nat) ≤ sizeLine := by decide
theorem src_loop (many : O) (st : O) : ∀ (sw : List (Nat × Nat)) (ss l : List Int) (s3 s4 s5 : Sl), (∀ p ∈ sw, p.2 + 1 < l.length) → s3.pinned = false → s4.pinned = false → s5.pinned = false →
    ∃ t3 t4 t5, sForL (tTupl (tgCons (tTupl (tgCons (tName 3) (tgCons (tName 4) tgNil))) (tgCons (tName 5) tgNil))) (sIf (dTst (dBin fEq (vS 5) (vT (dC (.int 1))))) (sAsg (dTup (aCons (dBin fIx (vS 2) (vT (dBin fAdd (vS 4) (vT (dC (.int 1)))))) (aCons (dBin fIx (vS 2) (vS 4)) aNil))) (tTupl (tgCons (tSub 2 (vS 4)) (tgCons (tSub 2 (vT (dBin fAdd (vS 4) (vT (dC (.int 1)))))) tgNil)))) sNext)
      (zipL (sw.map pairD) (ss.map .int)) [.p many, .p st, .v (il l), s3, s4, s5] = .nx [.p many, .p st, .v (il (runS sw ss l)), t3, t4, t5]
  | [], ss, l, s3, s4, s5, _, _, _, _ => ⟨s3, s4, s5, by simp [zipL, runS]⟩
  | p :: sw, [], l, s3, s4, s5, _, _, _, _ => ⟨s3, s4, s5, by simp [zipL, runS]⟩
  | p :: sw, s :: ss, l, s3, s4, s5, h, h3, h4, h5 => by
    have hp := h p List.mem_cons_self
    have hr : ∀ q ∈ sw, q.2 + 1 < l.length := fun q hq => h q (List.mem_cons_of_mem _ hq)
    by_cases hs : s = 1
    · obtain ⟨t3, t4, t5, ih⟩ := src_loop many st sw ss (swapN l p.2) (.v (.d (.int p.1))) (.v (.d (.int p.2))) (.v (.d (.int 1))) (fun q hq => by rw [swapN_len]; exact hr q hq) rfl rfl rfl
      refine ⟨t3, t4, t5, ?_⟩
      have e1 : fIx (il l) (.d (.int ((p.2 : Int) + 1))) = some (.d (.int (l.getD (p.2 + 1) 0))) := by
        have := ix_il (l := l) (i := (p.2 : Int) + 1) (by omega) (by omega)
        rw [show ((p.2 : Int) + 1).toNat = p.2 + 1 by omega] at this
        exact this
      have e2 : fIx (il l) (.d (.int (p.2 : Int))) = some (.d (.int (l.getD p.2 0))) := ix_il (l := l) (i := (p.2 : Int)) (by omega) (by omega)
      have e3 : (il l).store (.d (.int (p.2 : Int))) (.d (.int (l.getD (p.2 + 1) 0))) = some (il (l.set p.2 (l.getD (p.2 + 1) 0))) := store_il (l := l) (i := (p.2 : Int)) (by omega) (by omega)
      have e4 : (il (l.set p.2 (l.getD (p.2 + 1) 0))).store (.d (.int ((p.2 : Int) + 1))) (.d (.int (l.getD p.2 0))) = some (il (swapN l p.2)) := by
        have := store_il (l := l.set p.2 (l.getD (p.2 + 1) 0)) (i := (p.2 : Int) + 1) (x := l.getD p.2 0) (by omega) (by rw [List.length_set]; omega)
        rw [show ((p.2 : Int) + 1).toNat = p.2 + 1 by omega] at this
        exact this
      subst hs
      show sForL _ _ (.tup [.tup [.int p.1, .int p.2], .int 1] :: zipL (sw.map pairD) (ss.map .int)) _ = _
      rw [u2]
      generalize l.getD (p.2 + 1) 0 = x at e1 e3 e4
      generalize l.getD p.2 0 = y at e2 e4
      simp [h3, h4, h5, e1, e2, e3, e4, size2', ih, runS, -List.getD_eq_getElem?_getD]
    · obtain ⟨t3, t4, t5, ih⟩ := src_loop many st sw ss l (.v (.d (.int p.1))) (.v (.d (.int p.2))) (.v (.d (.int s))) hr rfl rfl rfl
      refine ⟨t3, t4, t5, ?_⟩
      show sForL _ _ (.tup [.tup [.int p.1, .int p.2], .int s] :: zipL (sw.map pairD) (ss.map .int)) _ = _
      rw [u2]
      simp [h3, h4, h5, hs, ih, runS]
end K73

namespace K73
open PySem L2 MX
def bit (s : Int) : Prop := s = 0 ∨ s = 1
theorem chk_ok (many st : O) : ∀ (ss : List Int) (s2 : Sl), (∀ s ∈ ss, bit s) → s2.pinned = false →
    ∃ t2, sForL (tName 2) (sIf (dAndT (dTst (dBin fNe (vS 2) (vT (dC (.int 0))))) (dTst (dBin fNe (vS 2) (vT (dC (.int 1)))))) (sRaise "BadTape") sNext) (ss.map .int) [.p many, .p st, s2] = .nx [.p many, .p st, t2]
  | [], s2, _, _ => ⟨s2, by simp⟩
  | s :: ss, s2, h, h2 => by
    obtain ⟨t2, ih⟩ := chk_ok many st ss (.v (.d (.int s))) (fun x hx => h x (List.mem_cons_of_mem _ hx)) rfl
    refine ⟨t2, ?_⟩
    rw [List.map_cons, u2]
    rcases h s List.mem_cons_self with h0 | h0 <;> subst h0 <;> simp [h2, ih]
theorem chk_bad (many st : O) : ∀ (ss : List Int) (s2 : Sl), (∃ s ∈ ss, ¬ bit s) → s2.pinned = false →
    ∃ t2, sForL (tName 2) (sIf (dAndT (dTst (dBin fNe (vS 2) (vT (dC (.int 0))))) (dTst (dBin fNe (vS 2) (vT (dC (.int 1)))))) (sRaise "BadTape") sNext) (ss.map .int) [.p many, .p st, s2] = .exc "BadTape" [] [.p many, .p st, t2]
  | [], s2, h, _ => by obtain ⟨s, hs, _⟩ := h; cases hs
  | s :: ss, s2, h, h2 => by
    rw [List.map_cons, u2]
    by_cases hb : bit s
    · obtain ⟨t2, ih⟩ := chk_bad many st ss (.v (.d (.int s))) (by
        obtain ⟨x, hx, hn⟩ := h
        rcases List.mem_cons.mp hx with q | q
        · rw [q] at hn; exact absurd hb hn
        · exact ⟨x, q, hn⟩) rfl
      refine ⟨t2, ?_⟩
      rcases hb with h0 | h0 <;> subst h0 <;> simp [h2, ih]
    · have n0 : s ≠ 0 := fun q => hb (.inl q)
      have n1 : s ≠ 1 := fun q => hb (.inr q)
      exact ⟨.v (.d (.int s)), by simp [h2, n0, n1]⟩
theorem sm_nat {n : Nat} (h : n ≤ 1000) : isSm (n : Int) = true := sm_of (by omega) (by omega)
theorem half_cast (n : Nat) : ((n : Int) * ((n : Int) - 1)) / 2 = ((n * (n - 1) / 2 : Nat) : Int) := by
  cases n with
  | zero => rfl
  | succ n =>
    have : ((n + 1 : Nat) : Int) - 1 = (n : Int) := by omega
    rw [this, Nat.add_sub_cancel]
    rw [show ((n + 1 : Nat) : Int) * (n : Int) = (((n + 1) * n : Nat) : Int) by rw [Int.natCast_mul]]
    rfl
theorem bA (n q y z : Int) (ss : List Int) (e1 : ((ss.length : Nat) : Int) = q) (e2 : fMul (.d (.int n)) (.d (.int z)) = some (.d (.int y))) (e3 : fDiv (.d (.int y)) (.d (.int 2)) = some (.d (.int q))) (hy : n - 1 = z) (R : Out)
  (h : sForL (tName 2) (sIf (dAndT (dTst (dBin fNe (vS 2) (vT (dC (.int 0))))) (dTst (dBin fNe (vS 2) (vT (dC (.int 1)))))) (sRaise "BadTape") sNext) (ss.map .int) [.p (.d (.int n)), .p (.d (.tup (ss.map .int))), .no] = R) :
  b__check_settings [.p (.d (.int n)), .p (.d (.tup (ss.map .int))), .no] = R := by
  simp [b__check_settings, hy, e2, e3, e1, h]
theorem bB (n q y z : Int) (ss : List Int) (e1 : ¬ ((ss.length : Nat) : Int) = q) (e2 : fMul (.d (.int n)) (.d (.int z)) = some (.d (.int y))) (e3 : fDiv (.d (.int y)) (.d (.int 2)) = some (.d (.int q))) (hy : n - 1 = z) :
  b__check_settings [.p (.d (.int n)), .p (.d (.tup (ss.map .int))), .no] = .exc "BadTape" [] [.p (.d (.int n)), .p (.d (.tup (ss.map .int))), .no] := by
  simp [b__check_settings, hy, e2, e3, e1]
theorem dA (n : Int) (ss : List Int) (t2 : Sl) (h : b__check_settings [.p (.d (.int n)), .p (.d (.tup (ss.map .int))), .no] = .nx [.p (.d (.int n)), .p (.d (.tup (ss.map .int))), t2]) : d__check_settings [.d (.int n), .d (.tup (ss.map .int))] = .ok (.d .non) [some (.d (.int n)), some (.d (.tup (ss.map .int)))] := by
  show denFn _ _ _ _ = _
  exact den_nx rfl h rfl
theorem dB (n : Int) (ss : List Int) (t2 : Sl) (h : b__check_settings [.p (.d (.int n)), .p (.d (.tup (ss.map .int))), .no] = .exc "BadTape" [] [.p (.d (.int n)), .p (.d (.tup (ss.map .int))), t2]) : d__check_settings [.d (.int n), .d (.tup (ss.map .int))] = .exc "BadTape" [] [some (.d (.int n)), some (.d (.tup (ss.map .int)))] := by
  show denFn _ _ _ _ = _
  exact den_ex rfl h rfl
theorem mulN (n : Nat) (hn : n ≤ 1000) : fMul (.d (.int n)) (.d (.int ((n : Int) - 1))) = some (.d (.int ((n : Int) * ((n : Int) - 1)))) := by
  simp [y15 (sm_nat hn)]
theorem divN (x : Int) : fDiv (.d (.int x)) (.d (.int 2)) = some (.d (.int (x / 2))) := by
  simp [y18]
theorem v_chk_ok (n : Nat) (hn : n ≤ 1000) (ss : List Int) (hl : ss.length = n * (n - 1) / 2) (hb : ∀ s ∈ ss, bit s) : d__check_settings [.d (.int n), .d (.tup (ss.map .int))] = .ok (.d .non) [some (.d (.int n)), some (.d (.tup (ss.map .int)))] := by
  obtain ⟨t2, h⟩ := chk_ok (.d (.int n)) (.d (.tup (ss.map .int))) ss .no hb rfl
  have e1 : ((ss.length : Nat) : Int) = (n : Int) * ((n : Int) - 1) / 2 := by rw [half_cast, hl]
  exact dA _ _ t2 (bA _ _ _ _ ss e1 (mulN n hn) (divN _) rfl _ h)
theorem v_chk_bad (n : Nat) (hn : n ≤ 1000) (ss : List Int) (hb : ss.length ≠ n * (n - 1) / 2 ∨ ∃ s ∈ ss, ¬ bit s) : d__check_settings [.d (.int n), .d (.tup (ss.map .int))] = .exc "BadTape" [] [some (.d (.int n)), some (.d (.tup (ss.map .int)))] := by
  by_cases hl : ss.length = n * (n - 1) / 2
  · obtain ⟨t2, h⟩ := chk_bad (.d (.int n)) (.d (.tup (ss.map .int))) ss .no (hb.resolve_left fun q => q hl) rfl
    have e1 : ((ss.length : Nat) : Int) = (n : Int) * ((n : Int) - 1) / 2 := by rw [half_cast, hl]
    exact dB _ _ t2 (bA _ _ _ _ ss e1 (mulN n hn) (divN _) rfl _ h)
  · have e1 : ¬ ((ss.length : Nat) : Int) = (n : Int) * ((n : Int) - 1) / 2 := by rw [half_cast]; omega
    exact dB _ _ .no (bB _ _ _ _ ss e1 (mulN n hn) (divN _) rfl)
/-! ### sources -/
def rangeI (n : Nat) : List Int := (List.range n).map fun (i : Nat) => (i : Int)
theorem rangeI_len {n : Nat} : (rangeI n).length = n := by unfold rangeI; rw [List.length_map, List.length_range]
theorem rg_il (n : Nat) : O.lst ((rgD 0 n).map .d) = il (rangeI n) := by
  unfold rgD rangeD il rangeI
  rw [List.map_map, List.map_map]
  have : ((n : Int) - 0).toNat = n := by omega
  rw [this]
  congr 1
  refine List.map_congr_left fun i _ => ?_
  show O.d (.int (0 + (i : Int))) = O.d (.int (i : Int))
  rw [Int.zero_add]
theorem rgB_n {n : Nat} (h : n ≤ 1000) : rgB 0 n = true := by
  unfold rgB inB
  simp
  omega
theorem tup_il (l : List Int) : on1 fTuple [il l] = some (.d (.tup (l.map .int))) := by
  show fTuple (il l) = _
  show (il l).ls.map (fun ds => O.d (.tup ds)) = _
  rw [ls_il]
  rfl
theorem seq_zip (a b : List D) : gZip [.lst a, .tup b] = some (zipL a b) := rfl
theorem bS (n : Int) (st : List D) (rg l' : List Int) (sw : List D) (t3 t4 t5 : Sl) (r1 : rgB 0 n = true) (r2 : O.lst ((rgD 0 n).map .d) = il rg)
  (e1 : d__check_settings [.d (.int n), .d (.tup st)] = .ok (.d .non) [some (.d (.int n)), some (.d (.tup st))])
  (e2 : d__switches [.d (.int n)] = .ok (.lst (sw.map .d)) [some (.d (.int n))])
  (h : sForL (tTupl (tgCons (tTupl (tgCons (tName 3) (tgCons (tName 4) tgNil))) (tgCons (tName 5) tgNil))) (sIf (dTst (dBin fEq (vS 5) (vT (dC (.int 1))))) (sAsg (dTup (aCons (dBin fIx (vS 2) (vT (dBin fAdd (vS 4) (vT (dC (.int 1)))))) (aCons (dBin fIx (vS 2) (vS 4)) aNil))) (tTupl (tgCons (tSub 2 (vS 4)) (tgCons (tSub 2 (vT (dBin fAdd (vS 4) (vT (dC (.int 1)))))) tgNil)))) sNext)
      (zipL sw st) [.p (.d (.int n)), .p (.d (.tup st)), .v (il rg), .no, .no, .no] = .nx [.p (.d (.int n)), .p (.d (.tup st)), .v (il l'), t3, t4, t5]) :
  b_source_places [.p (.d (.int n)), .p (.d (.tup st)), .no, .no, .no, .no] = .rt (.d (.tup (l'.map .int))) [.p (.d (.int n)), .p (.d (.tup st)), .v (il l'), t3, t4, t5] := by
  simp [b_source_places, e1, r1, r2, e2, seq_zip, h, tup_il]
theorem dS (n : Int) (st : List D) (l' : List Int) (s2 t3 t4 t5 : Sl) (h : b_source_places [.p (.d (.int n)), .p (.d (.tup st)), .no, .no, .no, .no] = .rt (.d (.tup (l'.map .int))) [.p (.d (.int n)), .p (.d (.tup st)), s2, t3, t4, t5]) :
  d_source_places [.d (.int n), .d (.tup st)] = .ok (.d (.tup (l'.map .int))) [some (.d (.int n)), some (.d (.tup st))] := by
  show denFn _ _ _ _ = _
  exact den_rt rfl h rfl
theorem bSb (n : Int) (st : List D) (e1 : d__check_settings [.d (.int n), .d (.tup st)] = .exc "BadTape" [] [some (.d (.int n)), some (.d (.tup st))]) :
  b_source_places [.p (.d (.int n)), .p (.d (.tup st)), .no, .no, .no, .no] = .exc "BadTape" [] [.p (.d (.int n)), .p (.d (.tup st)), .no, .no, .no, .no] := by
  simp [b_source_places, e1]
theorem dSb (n : Int) (st : List D) (h : b_source_places [.p (.d (.int n)), .p (.d (.tup st)), .no, .no, .no, .no] = .exc "BadTape" [] [.p (.d (.int n)), .p (.d (.tup st)), .no, .no, .no, .no]) :
  d_source_places [.d (.int n), .d (.tup st)] = .exc "BadTape" [] [some (.d (.int n)), some (.d (.tup st))] := by
  show denFn _ _ _ _ = _
  exact den_ex rfl h rfl
theorem v_sources (n : Nat) (hn : n ≤ 12) (ss : List Int) (hl : ss.length = n * (n - 1) / 2) (hb : ∀ s ∈ ss, bit s) :
    d_source_places [.d (.int n), .d (.tup (ss.map .int))] = .ok (.d (.tup ((runS (swL n) ss (rangeI n)).map .int))) [some (.d (.int n)), some (.d (.tup (ss.map .int)))] := by
  obtain ⟨t3, t4, t5, h⟩ := src_loop (.d (.int n)) (.d (.tup (ss.map .int))) (swL n) ss (rangeI n) .no .no .no (fun p hp => by rw [rangeI_len]; exact sw_in n hn p hp) rfl rfl rfl
  exact dS _ _ _ _ t3 t4 t5 (bS n (ss.map .int) (rangeI n) _ ((swL n).map pairD) t3 t4 t5 (rgB_n (by omega)) (rg_il n) (v_chk_ok n (by omega) ss hl hb) (v_psw n hn) h)
theorem v_sources_bad (n : Nat) (hn : n ≤ 1000) (ss : List Int) (hb : ss.length ≠ n * (n - 1) / 2 ∨ ∃ s ∈ ss, ¬ bit s) :
    d_source_places [.d (.int n), .d (.tup (ss.map .int))] = .exc "BadTape" [] [some (.d (.int n)), some (.d (.tup (ss.map .int)))] :=
  dSb _ _ (bSb _ _ (v_chk_bad n hn ss hb))
end K73

namespace K73
open PySem L2 MX
/-! ### cuts, joins, places -/
theorem sIx_pos {n d : Nat} {j : Int} (h : 0 ≤ j) : HT.sIx n d (some j) = min j.toNat n := by
  obtain ⟨k, rfl⟩ := Int.eq_ofNat_of_zero_le h
  rw [HT.sIx_nat]; rfl
theorem cut_to {xs : List D} {j : Int} (h : 0 ≤ j) : cutD xs none (some j) = xs.take j.toNat := by
  unfold cutD
  rw [HT.sIx_none, sIx_pos h, List.drop_zero, Nat.sub_zero]
  rcases Nat.le_total j.toNat xs.length with q | q
  · rw [Nat.min_eq_left q]
  · rw [Nat.min_eq_right q, List.take_length, List.take_of_length_le q]
theorem cut_from {xs : List D} {j : Int} (h : 0 ≤ j) : cutD xs (some j) none = xs.drop j.toNat := by
  unfold cutD
  rw [HT.sIx_none, sIx_pos h]
  rcases Nat.le_total j.toNat xs.length with q | q
  · rw [Nat.min_eq_left q]
    exact List.take_of_length_le (by rw [List.length_drop]; exact Nat.le_refl _)
  · rw [Nat.min_eq_right q, List.drop_length, List.drop_eq_nil_of_le q, List.take_nil]
theorem il_leaf {l : List Int} : il l = .lst ((l.map D.int).map .d) := by unfold il; rw [List.map_map]; rfl
theorem sl_to {l : List Int} {j : Int} (h : 0 ≤ j) : fSl (il l) none (some j) = some (il (l.take j.toNat)) := by
  have e1 : fSlL (il l) none (some j) = some (il (l.take j.toNat)) := by
    show (il l).ls.map _ = _
    rw [ls_il]
    show some (O.lst ((cutD (l.map D.int) none (some j)).map .d)) = _
    rw [cut_to h, il_leaf]; simp only [List.map_take]
  unfold fSl; rw [e1]
theorem sl_from {l : List Int} {j : Int} (h : 0 ≤ j) : fSl (il l) (some j) none = some (il (l.drop j.toNat)) := by
  have e1 : fSlL (il l) (some j) none = some (il (l.drop j.toNat)) := by
    show (il l).ls.map _ = _
    rw [ls_il]
    show some (O.lst ((cutD (l.map D.int) (some j) none).map .d)) = _
    rw [cut_from h, il_leaf]; simp only [List.map_drop]
  unfold fSl; rw [e1]
theorem st_to {l : List Int} {j : Int} (h : 0 ≤ j) : fSl (.d (.tup (l.map .int))) none (some j) = some (.d (.tup ((l.take j.toNat).map .int))) := by
  show some (O.d (.tup (cutD (l.map D.int) none (some j)))) = _
  rw [cut_to h, List.map_take]
theorem st_from {l : List Int} {j : Int} (h : 0 ≤ j) : fSl (.d (.tup (l.map .int))) (some j) none = some (.d (.tup ((l.drop j.toNat).map .int))) := by
  show some (O.d (.tup (cutD (l.map D.int) (some j) none))) = _
  rw [cut_from h, List.map_drop]
theorem cat_il {a b : List Int} (h : a.length + b.length ≤ sizeLine) : fAdd (il a) (il b) = some (il (a ++ b)) := by
  have e1 : fCat (il a) (il b) = some (il (a ++ b)) := by
    show (match (il a).ls, (il b).ls with
      | some xs, some ys => if xs.length + ys.length ≤ sizeLine then some (O.lst ((xs ++ ys).map .d)) else none
      | _, _ => none) = _
    rw [ls_il, ls_il]
    show (if (a.map D.int).length + (b.map D.int).length ≤ sizeLine then some (O.lst ((a.map D.int ++ b.map D.int).map .d)) else none) = _
    rw [List.length_map, List.length_map, if_pos h, il_leaf]; simp only [List.map_append]
  show (match fCat (il a) (il b) with
    | some z => some z
    | none => fCatT (il a) (il b)) = _
  rw [e1]
theorem cat_tl {a b : List Int} (h : a.length + b.length ≤ sizeLine) : fAdd (.d (.tup (a.map .int))) (.d (.tup (b.map .int))) = some (.d (.tup ((a ++ b).map .int))) := by
  show (if (a.map D.int).length + (b.map D.int).length ≤ sizeLine then some (O.d (.tup (a.map D.int ++ b.map D.int))) else none) = _
  rw [List.length_map, List.length_map, if_pos h, List.map_append]
theorem at_map {α : Type} {f : α → D} {l : List α} {x : α} {k : Nat} (h : l[k]? = some x) : atI (l.map f) (k : Int) = some (f x) := atI_nat (by rw [List.getElem?_map, h]; rfl)
theorem ixT_map {α : Type} {f : α → D} {l : List α} {x : α} {k : Nat} (h : l[k]? = some x) : fIx (.d (.tup (l.map f))) (.d (.int (k : Int))) = some (.d (f x)) := by
  have e : fIxT (.d (.tup (l.map f))) (.d (.int (k : Int))) = some (.d (f x)) := by
    show (atI (l.map f) (k : Int)).map O.d = _
    rw [at_map h]; rfl
  show (match fIxT (.d (.tup (l.map f))) (.d (.int (k : Int))) with
    | some z => some z
    | none => _) = _
  rw [e]
theorem ixL_map {α : Type} {f : α → D} {l : List α} {x : α} {k : Nat} (h : l[k]? = some x) : fIx (.lst ((l.map f).map .d)) (.d (.int (k : Int))) = some (.d (f x)) := by
  have e : fIxL (.lst ((l.map f).map .d)) (.d (.int (k : Int))) = some (.d (f x)) := by
    show (match leafs ((l.map f).map .d) with
      | some xs => (atI xs (k : Int)).map O.d
      | none => none) = _
    rw [leafs_map]
    show (atI (l.map f) (k : Int)).map O.d = _
    rw [at_map h]; rfl
  show (match fIxL (.lst ((l.map f).map .d)) (.d (.int (k : Int))) with
    | some z => some z
    | none => _) = _
  rw [e]
theorem swap_cut {l : List Int} {j : Nat} (h : j + 1 < l.length) : (l.take j ++ [l.getD (j + 1) 0, l.getD j 0]) ++ l.drop (j + 2) = swapN l j := by
  apply List.ext_getElem?
  intro i
  unfold swapN
  have hl : (l.take j).length = j := by rw [List.length_take]; omega
  rcases Nat.lt_trichotomy i j with q | q | q
  · rw [List.append_assoc, List.getElem?_append_left (by omega), List.getElem?_take_of_lt q, List.getElem?_set_ne (by omega), List.getElem?_set_ne (by omega)]
  · subst q
    rw [List.append_assoc, List.getElem?_append_right (by omega), hl, Nat.sub_self, List.getElem?_set_ne (by omega), List.getElem?_set_self (by omega)]
    rfl
  · by_cases q2 : i = j + 1
    · subst q2
      rw [List.append_assoc, List.getElem?_append_right (by omega), hl, List.getElem?_set_self (by rw [List.length_set]; omega)]
      rw [show j + 1 - j = 1 by omega]
      rfl
    · rw [List.getElem?_append_right (by rw [List.length_append, hl]; simp; omega), List.length_append, hl, List.getElem?_set_ne (by omega), List.getElem?_set_ne (by omega), List.getElem?_drop]
      congr 1
      simp
      omega
/-! ### the law's own sources -/
def idx (a m : Nat) : List D := (List.range' a m).map fun (i : Nat) => D.int (i : Int)
theorem gR1_n {m : Nat} (h : m ≤ 1000000) : gR1 [.d (.int (m : Int))] = some (idx 0 m) := by
  have e : inB (m : Int) = true := by unfold inB; simp; omega
  show (if inB (m : Int) = true then some (rangeD 0 (m : Int).toNat) else none) = _
  rw [if_pos e, Int.toNat_natCast]
  unfold rangeD idx
  rw [List.range_eq_range']
  simp
theorem idx_s {a m : Nat} : idx a (m + 1) = D.int (a : Int) :: idx (a + 1) m := by unfold idx; rw [List.range'_succ]; rfl
abbrev lawBody : En → Out := sIf (dTst (dBin fEq (vT (dBin fIx (vS 1) (vS 4))) (vT (dC (.int 1))))) (sSeq (sAsg (dBin fIx (vT (dBin fIx (vS 3) (vS 4))) (vT (dC (.int 1)))) (tName 5))
  (sAsg (dBin fAdd (vT (dBin fAdd (vT (dSl fSl (vS 2) oNone (oSome (vS 5)))) (vT (dLst (aCons (dBin fIx (vS 2) (vT (dBin fAdd (vS 5) (vT (dC (.int 1)))))) (aCons (dBin fIx (vS 2) (vS 5)) aNil)))))) (vT (dSl fSl (vS 2) (oSome (vT (dBin fAdd (vS 5) (vT (dC (.int 2)))))) oNone))) (tName 2))) sNext
theorem lb_no (many st sw l : O) (a s : Int) (s4 s5 : Sl) (h4 : s4.pinned = false) (hs : s ≠ 1) (e1 : fIx st (.d (.int a)) = some (.d (.int s))) (R : Out) (ds : List D)
  (h : sForL (tName 4) lawBody ds [.p many, .p st, .v l, .v sw, .v (.d (.int a)), s5] = R) :
  sForL (tName 4) lawBody (.int a :: ds) [.p many, .p st, .v l, .v sw, s4, s5] = R := by
  rw [u2]
  simp [h4, e1, hs, h]
theorem lb_yes (many st sw l l1 l2 l3 l4 : O) (a x y : Int) (pl : D) (j : Int) (s4 s5 : Sl) (h4 : s4.pinned = false) (h5 : s5.pinned = false) (e1 : fIx st (.d (.int a)) = some (.d (.int 1)))
  (e2 : fIx sw (.d (.int a)) = some (.d pl)) (e3 : fIx (.d pl) (.d (.int 1)) = some (.d (.int j))) (c1 : fSl l none (some j) = some l1) (c2 : fIx l (.d (.int (j + 1))) = some (.d (.int x))) (c3 : fIx l (.d (.int j)) = some (.d (.int y)))
  (c4 : fSl l (some (j + 2)) none = some l2) (c5 : fAdd l1 (.lst [.d (.int x), .d (.int y)]) = some l3) (c6 : fAdd l3 l2 = some l4) (R : Out) (ds : List D)
  (h : sForL (tName 4) lawBody ds [.p many, .p st, .v l4, .v sw, .v (.d (.int a)), .v (.d (.int j))] = R) :
  sForL (tName 4) lawBody (.int a :: ds) [.p many, .p st, .v l, .v sw, s4, s5] = R := by
  rw [u2]
  simp [h4, h5, e1, e2, e3, c1, c2, c3, c4, c5, c6, size2', h]
end K73

namespace K73
open PySem L2 MX
theorem getD_some {l : List Int} {k : Nat} (h : k < l.length) : l[k]? = some (l.getD k 0) := by
  rw [List.getD_eq_getElem?_getD, List.getElem?_eq_getElem h]; rfl
theorem two_il (x y : Int) : O.lst [.d (.int x), .d (.int y)] = il [x, y] := rfl
theorem law_loop (many : O) (n : Nat) (ss : List Int) (hl : (swL n).length = ss.length) (hb : ∀ s ∈ ss, bit s) : ∀ (m a : Nat) (l : List Int) (s4 s5 : Sl), a + m = ss.length → (∀ p ∈ swL n, p.2 + 1 < l.length) → l.length ≤ 1000 → s4.pinned = false → s5.pinned = false →
    ∃ t4 t5, sForL (tName 4) lawBody (idx a m) [.p many, .p (.d (.tup (ss.map .int))), .v (il l), .v (.lst (((swL n).map pairD).map .d)), s4, s5]
      = .nx [.p many, .p (.d (.tup (ss.map .int))), .v (il (runS ((swL n).drop a) (ss.drop a) l)), .v (.lst (((swL n).map pairD).map .d)), t4, t5]
  | 0, a, l, s4, s5, h, _, _, _, _ => ⟨s4, s5, by
      rw [List.drop_eq_nil_of_le (show ss.length ≤ a by omega), List.drop_eq_nil_of_le (show (swL n).length ≤ a by omega)]
      simp [idx, runS]⟩
  | m + 1, a, l, s4, s5, h, hp, hk, h4, h5 => by
    have ha : a < ss.length := by omega
    have ha2 : a < (swL n).length := by omega
    have e1 : ss[a]? = some ss[a] := List.getElem?_eq_getElem ha
    have e2 : (swL n)[a]? = some (swL n)[a] := List.getElem?_eq_getElem ha2
    have hj : (swL n)[a].2 + 1 < l.length := hp _ (List.getElem_mem ha2)
    have d1 : ss.drop a = ss[a] :: ss.drop (a + 1) := List.drop_eq_getElem_cons ha
    have d2 : (swL n).drop a = (swL n)[a] :: (swL n).drop (a + 1) := List.drop_eq_getElem_cons ha2
    have i1 := ixT_map (f := D.int) e1
    have i2 := ixL_map (f := pairD) e2
    rw [idx_s, d1, d2]
    generalize hss : ss[a] = s at *
    generalize (swL n)[a] = p at *
    rcases hb s (by rw [← hss]; exact List.getElem_mem ha) with h0 | h0
    · subst h0
      obtain ⟨t4, t5, ih⟩ := law_loop many n ss hl hb m (a + 1) l (.v (.d (.int (a : Int)))) s5 (by omega) hp hk rfl h5
      refine ⟨t4, t5, ?_⟩
      rw [show runS (p :: (swL n).drop (a + 1)) (0 :: ss.drop (a + 1)) l = runS ((swL n).drop (a + 1)) (ss.drop (a + 1)) l from rfl]
      exact lb_no _ _ _ _ _ 0 _ _ h4 (by decide) i1 _ _ ih
    · subst h0
      obtain ⟨t4, t5, ih⟩ := law_loop many n ss hl hb m (a + 1) (swapN l p.2) (.v (.d (.int (a : Int)))) (.v (.d (.int (p.2 : Int)))) (by omega) (fun q hq => by rw [swapN_len]; exact hp q hq) (by rw [swapN_len]; exact hk) rfl rfl
      refine ⟨t4, t5, ?_⟩
      rw [show runS (p :: (swL n).drop (a + 1)) (1 :: ss.drop (a + 1)) l = runS ((swL n).drop (a + 1)) (ss.drop (a + 1)) (swapN l p.2) from rfl]
      have hz : sizeLine ≥ 2000 := by decide
      refine lb_yes many _ _ (il l) (il (l.take p.2)) (il (l.drop (p.2 + 2))) (il (l.take p.2 ++ [l.getD (p.2 + 1) 0, l.getD p.2 0])) (il (swapN l p.2)) (a : Int) (l.getD (p.2 + 1) 0) (l.getD p.2 0) (pairD p) (p.2 : Int) _ _ h4 h5 i1 i2 rfl ?_ ?_ ?_ ?_ ?_ ?_ _ _ ih
      · exact sl_to (j := (p.2 : Int)) (by omega)
      · have := ix_il (l := l) (i := (p.2 : Int) + 1) (by omega) (by omega)
        rw [show ((p.2 : Int) + 1).toNat = p.2 + 1 by omega] at this
        exact this
      · exact ix_il (l := l) (i := (p.2 : Int)) (by omega) (by omega)
      · have := sl_from (l := l) (j := (p.2 : Int) + 2) (by omega)
        rw [show ((p.2 : Int) + 2).toNat = p.2 + 2 by omega] at this
        exact this
      · rw [two_il]
        refine cat_il ?_
        rw [List.length_take]
        show _ + 2 ≤ _
        omega
      · rw [← swap_cut hj]
        refine cat_il ?_
        rw [List.length_append, List.length_take, List.length_drop]
        show _ + 2 + _ ≤ _
        omega
theorem bL' (B : En → Out) (n : Int) (st : List D) (rg l' : List Int) (sw : List D) (ix : List D) (t4 t5 : Sl) (r1 : rgB 0 n = true) (r2 : O.lst ((rgD 0 n).map .d) = il rg)
  (e2 : d__law_switches [.d (.int n)] = .ok (.lst (sw.map .d)) [some (.d (.int n))]) (q : Int) (e0 : fLenU [.lst (sw.map .d)] = some (.d (.int q))) (e3 : gR1 [.d (.int q)] = some ix)
  (h : sForL (tName 4) B ix [.p (.d (.int n)), .p (.d (.tup st)), .v (il rg), .v (.lst (sw.map .d)), .no, .no] = .nx [.p (.d (.int n)), .p (.d (.tup st)), .v (il l'), .v (.lst (sw.map .d)), t4, t5]) :
  (sSeq (sAsg (dLRg (rg1 (vS 0))) (tName 2))
  (sSeq (sAsg (dCallF d__law_switches [0] (cCons (gName 0) cNil)) (tName 3))
  (sSeq (sFor (iOps (vCons (vT (dCall fLenU (vCons (vS 3) vNil))) vNil) gR1) (tName 4) B)
  (sRet (dCall (on1 fTuple) (vCons (vS 2) vNil)))))) [.p (.d (.int n)), .p (.d (.tup st)), .no, .no, .no, .no] = .rt (.d (.tup (l'.map .int))) [.p (.d (.int n)), .p (.d (.tup st)), .v (il l'), .v (.lst (sw.map .d)), t4, t5] := by
  simp [r1, r2, e2, e0, e3, h, tup_il, -y14]
theorem bL (n : Int) (st : List D) (rg l' : List Int) (sw : List D) (ix : List D) (t4 t5 : Sl) (r1 : rgB 0 n = true) (r2 : O.lst ((rgD 0 n).map .d) = il rg)
  (e2 : d__law_switches [.d (.int n)] = .ok (.lst (sw.map .d)) [some (.d (.int n))]) (e3 : gR1 [.d (.int sw.length)] = some ix)
  (h : sForL (tName 4) lawBody ix [.p (.d (.int n)), .p (.d (.tup st)), .v (il rg), .v (.lst (sw.map .d)), .no, .no] = .nx [.p (.d (.int n)), .p (.d (.tup st)), .v (il l'), .v (.lst (sw.map .d)), t4, t5]) :
  b__law_sources [.p (.d (.int n)), .p (.d (.tup st)), .no, .no, .no, .no] = .rt (.d (.tup (l'.map .int))) [.p (.d (.int n)), .p (.d (.tup st)), .v (il l'), .v (.lst (sw.map .d)), t4, t5] :=
  bL' lawBody n st rg l' sw ix t4 t5 r1 r2 e2 sw.length (by rw [y14, List.length_map]) e3 h
theorem dL (n : Int) (st : List D) (l' : List Int) (s2 s3 t4 t5 : Sl) (h : b__law_sources [.p (.d (.int n)), .p (.d (.tup st)), .no, .no, .no, .no] = .rt (.d (.tup (l'.map .int))) [.p (.d (.int n)), .p (.d (.tup st)), s2, s3, t4, t5]) :
  d__law_sources [.d (.int n), .d (.tup st)] = .ok (.d (.tup (l'.map .int))) [some (.d (.int n)), some (.d (.tup st))] := by
  show denFn _ _ _ _ = _
  exact den_rt rfl h rfl
theorem v_lsrc (n : Nat) (hn : n ≤ 12) (ss : List Int) (hl : ss.length = n * (n - 1) / 2) (hb : ∀ s ∈ ss, bit s) :
    d__law_sources [.d (.int n), .d (.tup (ss.map .int))] = .ok (.d (.tup ((runS (swL n) ss (rangeI n)).map .int))) [some (.d (.int n)), some (.d (.tup (ss.map .int)))] := by
  have h1 : (swL n).length = ss.length := by rw [sw_len n hn, hl]
  have h2 : ss.length ≤ 1000 := by
    rw [hl]
    have : n * (n - 1) ≤ 12 * 11 := Nat.mul_le_mul hn (by omega)
    omega
  obtain ⟨t4, t5, h⟩ := law_loop (.d (.int n)) n ss h1 hb ss.length 0 (rangeI n) .no .no (by omega) (fun p hp => by rw [rangeI_len]; exact sw_in n hn p hp) (by rw [rangeI_len]; omega) rfl rfl
  refine dL _ _ _ _ _ t4 t5 (bL n (ss.map .int) (rangeI n) _ ((swL n).map pairD) (idx 0 ss.length) t4 t5 (rgB_n (by omega)) (rg_il n) (v_lsw n hn) ?_ h)
  rw [List.length_map, h1]
  exact gR1_n (by omega)
end K73

namespace K73
open PySem L2 MX
/-! ### same -/
def SameK (k : Nat) (d : D) : Prop := d__law_same k [.d d, .d d] = .ok (.d (.bl true)) [some (.d d), some (.d d)]
theorem is1 {i : Int} {t : String} (h : t = "tuple" ∨ t = "str" ∨ t = "bool") : on2 fIsi [.d (.int i), .d (.ty t)] = some (.d (.bl false)) := by rcases h with h | h | h <;> subst h <;> rfl
theorem is2 {i : Int} : on2 fIsi [.d (.int i), .d (.ty "int")] = some (.d (.bl true)) := rfl
theorem is3 {ds : List D} : on2 fIsi [.d (.tup ds), .d (.ty "tuple")] = some (.d (.bl true)) := rfl
theorem isN {i : Int} : fIsN (.d (.int i)) (.d .non) = some (.d (.bl false)) := rfl
theorem bI (dR : Den) (i : Int) : b__law_same dR [.p (.d (.int i)), .p (.d (.int i)), .no] = .rt (.d (.bl true)) [.p (.d (.int i)), .p (.d (.int i)), .no] := by
  simp [b__law_same, is1, is2, isN]
theorem same_int (k : Nat) (i : Int) : SameK (k + 1) (.int i) := by
  show denFn [true, true] 3 (b__law_same (d__law_same k)) _ = _
  simp [denFn, initE, outE, List.replicate, bI]
abbrev smB (dR : Den) : En → Out := (sIf (dNotT (dTst (dCallF dR [0, 1] (cCons (gVal (dBin fIx (vS 0) (vS 2))) (cCons (gVal (dBin fIx (vS 1) (vS 2))) cNil))))) (sRet (dC (.bl false))) sNext)
theorem sm_step (dR : Den) (t x : O) (a : Int) (s2 : Sl) (ds : List D) (R : Out) (h2 : s2.pinned = false) (e1 : fIx t (.d (.int a)) = some x) (e2 : dR [x, x] = .ok (.d (.bl true)) [some x, some x])
  (h : sForL (tName 2) (smB dR) ds [.p t, .p t, .v (.d (.int a))] = R) : sForL (tName 2) (smB dR) (.int a :: ds) [.p t, .p t, s2] = R := by
  rw [u2]
  simp [h2, e1, e2, h]
theorem sm_loop (dR : Den) (xs : List D) (hx : ∀ x ∈ xs, dR [.d x, .d x] = .ok (.d (.bl true)) [some (.d x), some (.d x)]) : ∀ (m a : Nat) (s2 : Sl), a + m = xs.length → s2.pinned = false →
    ∃ t2, sForL (tName 2) (smB dR) (idx a m) [.p (.d (.tup xs)), .p (.d (.tup xs)), s2] = .nx [.p (.d (.tup xs)), .p (.d (.tup xs)), t2]
  | 0, a, s2, _, _ => ⟨s2, by simp [idx]⟩
  | m + 1, a, s2, h, h2 => by
    obtain ⟨t2, ih⟩ := sm_loop dR xs hx m (a + 1) (.v (.d (.int (a : Int)))) (by omega) rfl
    refine ⟨t2, ?_⟩
    rw [idx_s]
    have ha : a < xs.length := by omega
    have e1 : xs[a]? = some xs[a] := List.getElem?_eq_getElem ha
    have i1 := ixT_map (f := id) e1
    rw [List.map_id] at i1
    exact sm_step dR _ _ _ _ _ _ h2 i1 (hx _ (List.getElem_mem ha)) ih
theorem bT (dR : Den) (xs ix : List D) (q : Int) (t2 : Sl) (e0 : fLenU [.d (.tup xs)] = some (.d (.int q))) (e1 : gR1 [.d (.int q)] = some ix)
  (h : sForL (tName 2) (smB dR) ix [.p (.d (.tup xs)), .p (.d (.tup xs)), .no] = .nx [.p (.d (.tup xs)), .p (.d (.tup xs)), t2]) :
  b__law_same dR [.p (.d (.tup xs)), .p (.d (.tup xs)), .no] = .rt (.d (.bl true)) [.p (.d (.tup xs)), .p (.d (.tup xs)), t2] := by
  unfold smB at h
  simp [b__law_same, is3, e0, e1, h, -y13]
theorem same_tup (k : Nat) (xs : List D) (hl : xs.length ≤ 1000) (hx : ∀ x ∈ xs, SameK k x) : SameK (k + 1) (.tup xs) := by
  obtain ⟨t2, h⟩ := sm_loop (d__law_same k) xs hx xs.length 0 .no (by omega) rfl
  have hb := bT (d__law_same k) xs (idx 0 xs.length) _ t2 y13 (gR1_n (by omega)) h
  show denFn [true, true] 3 (b__law_same (d__law_same k)) _ = _
  simp [denFn, initE, outE, List.replicate, hb]
theorem same_ints (k : Nat) (l : List Int) (hl : l.length ≤ 1000) : SameK (k + 2) (.tup (l.map .int)) := by
  refine same_tup (k + 1) _ (by rw [List.length_map]; exact hl) fun x hx => ?_
  obtain ⟨i, _, hi⟩ := List.mem_map.mp hx
  rw [← hi]
  exact same_int k i
end K73

namespace K73
open PySem L2 MX
/-! ### layers -/
def layersD (n : Nat) : List D := (List.range n).map fun (l : Nat) => D.tup (((List.range ((n - 1 - l % 2 + 1) / 2)).map fun (k : Nat) => D.int ((l % 2 + 2 * k : Nat) : Int)))
theorem v_swp : ∀ n : Nat, n ≤ 12 → d_switch_places [.d (.int n)] = .ok (.d (.tup (layersD n))) [some (.d (.int n))]
  | 0, _ => by kernel_rfl
  | 1, _ => by kernel_rfl
  | 2, _ => by kernel_rfl
  | 3, _ => by kernel_rfl
  | 4, _ => by kernel_rfl
  | 5, _ => by kernel_rfl
  | 6, _ => by kernel_rfl
  | 7, _ => by kernel_rfl
  | 8, _ => by kernel_rfl
  | 9, _ => by kernel_rfl
  | 10, _ => by kernel_rfl
  | 11, _ => by kernel_rfl
  | 12, _ => by kernel_rfl
  | n + 13, h => by omega
theorem lay_same (n : Nat) (hn : n ≤ 12) : SameK 8 (.tup (layersD n)) := by
  refine same_tup 7 _ (by unfold layersD; rw [List.length_map, List.length_range]; omega) fun x hx => ?_
  obtain ⟨l, hl, he⟩ := List.mem_map.mp hx
  rw [← he]
  refine same_tup 6 _ (by rw [List.length_map, List.length_range]; omega) fun y hy => ?_
  obtain ⟨k, _, hk⟩ := List.mem_map.mp hy
  rw [← hk]
  exact same_int 5 _
end K73

namespace K73
open PySem L2 MX
abbrev layE : En → Rs O := (dLc (iOps (vCons (vS 2) vNil) gR1) [10] (tName 10) dYes (dCall (on1 fTuple) (vCons (vT (dLc (iAny (dCallF d__law_switches [0] (cCons (gName 2) cNil))) [12] (tName 12) (dTst (dBin fEq (vT (dBin fIx (vS 12) (vT (dC (.int 0))))) (vS 10))) (dBin fIx (vS 12) (vT (dC (.int 1)))))) vNil)))
abbrev layT (sc o : O) (n : Int) : En := [.p sc, .v o, .v (.d (.int n)), .no, .no, .no, .no, .no, .no, .no, .no, .no, .no, .no]
theorem v_lay (sc o : O) : ∀ n : Nat, n ≤ 12 → layE (layT sc o n) = .ok (.lst ((layersD n).map .d)) (layT sc o n)
  | 0, _ => by kernel_rfl
  | 1, _ => by kernel_rfl
  | 2, _ => by kernel_rfl
  | 3, _ => by kernel_rfl
  | 4, _ => by kernel_rfl
  | 5, _ => by kernel_rfl
  | 6, _ => by kernel_rfl
  | 7, _ => by kernel_rfl
  | 8, _ => by kernel_rfl
  | 9, _ => by kernel_rfl
  | 10, _ => by kernel_rfl
  | 11, _ => by kernel_rfl
  | 12, _ => by kernel_rfl
  | n + 13, h => by omega
end K73

namespace K73
open PySem L2 MX
/-! ### settings_for -/
def putG : Nat → List Int → List Int → List Int
  | _, [], g => g
  | i, p :: ps, g => putG (i + 1) ps (g.set p.toNat (i : Int))
theorem putG_len : ∀ {ps : List Int} {i : Nat} {g : List Int}, (putG i ps g).length = g.length
  | [], _, _ => rfl
  | p :: ps, i, g => by show (putG (i + 1) ps _).length = _; rw [putG_len, List.length_set]
abbrev gT : Tg := (tTupl (tgCons (tName 3) (tgCons (tName 4) tgNil)))
abbrev gB : En → Out := (sAsg (dVar 3) (tSub 2 (vS 4)))
theorem g_step (t m g g' : O) (a : Int) (x : Int) (s3 s4 s5 s6 : Sl) (ds : List D) (R : Out) (h3 : s3.pinned = false) (h4 : s4.pinned = false) (e : g.store (.d (.int x)) (.d (.int a)) = some g')
  (h : sForL gT gB ds [.p t, .v m, .v g', .v (.d (.int a)), .v (.d (.int x)), s5, s6] = R) : sForL gT gB (.tup [.int a, .int x] :: ds) [.p t, .v m, .v g, s3, s4, s5, s6] = R := by
  rw [u2]
  simp [h3, h4, e, h]
theorem g_loop (t m : O) : ∀ (ps g : List Int) (i : Nat) (s3 s4 s5 s6 : Sl), (∀ p ∈ ps, 0 ≤ p ∧ p < g.length) → s3.pinned = false → s4.pinned = false →
    ∃ t3 t4, t3.pinned = false ∧ t4.pinned = false ∧ sForL gT gB (enumL i (ps.map .int)) [.p t, .v m, .v (il g), s3, s4, s5, s6] = .nx [.p t, .v m, .v (il (putG i ps g)), t3, t4, s5, s6]
  | [], g, i, s3, s4, s5, s6, _, h3, h4 => ⟨s3, s4, h3, h4, by simp [enumL, putG]⟩
  | p :: ps, g, i, s3, s4, s5, s6, h, h3, h4 => by
    have hp := h p List.mem_cons_self
    obtain ⟨t3, t4, k3, k4, ih⟩ := g_loop t m ps (g.set p.toNat (i : Int)) (i + 1) (.v (.d (.int (i : Int)))) (.v (.d (.int p))) s5 s6 (fun q hq => by rw [List.length_set]; exact h q (List.mem_cons_of_mem _ hq)) rfl rfl
    refine ⟨t3, t4, k3, k4, ?_⟩
    exact g_step _ _ _ _ _ _ _ _ _ _ _ _ h3 h4 (store_il hp.1 hp.2) ih
end K73

namespace K73
open PySem L2 MX
/-- the switches run on goals: the settings -/
def sortS : List (Nat × Nat) → List Int → List Int
  | [], _ => []
  | p :: sw, g => if g.getD (p.2 + 1) 0 < g.getD p.2 0 then 1 :: sortS sw (swapN g p.2) else 0 :: sortS sw g
/-- and the goals that are left -/
def sortG : List (Nat × Nat) → List Int → List Int
  | [], g => g
  | p :: sw, g => sortG sw (if g.getD (p.2 + 1) 0 < g.getD p.2 0 then swapN g p.2 else g)
theorem sortS_bit : ∀ {sw : List (Nat × Nat)} {g : List Int}, ∀ s ∈ sortS sw g, bit s
  | [], _, s, h => nomatch h
  | p :: sw, g, s, h => by
    unfold sortS at h
    split at h
    · rcases List.mem_cons.mp h with q | q
      · exact .inr q
      · exact sortS_bit s q
    · rcases List.mem_cons.mp h with q | q
      · exact .inl q
      · exact sortS_bit s q
theorem sortS_len : ∀ {sw : List (Nat × Nat)} {g : List Int}, (sortS sw g).length = sw.length
  | [], _ => rfl
  | p :: sw, g => by
    unfold sortS
    split
    · rw [List.length_cons, List.length_cons, sortS_len]
    · rw [List.length_cons, List.length_cons, sortS_len]
abbrev sT : Tg := (tTupl (tgCons (tName 6) (tgCons (tName 4) tgNil)))
abbrev sB : En → Out := (sIf (dTst (dBin fGt (vT (dBin fIx (vS 2) (vS 4))) (vT (dBin fIx (vS 2) (vT (dBin fAdd (vS 4) (vT (dC (.int 1))))))))) (sSeq (sAsg (dTup (aCons (dBin fIx (vS 2) (vT (dBin fAdd (vS 4) (vT (dC (.int 1)))))) (aCons (dBin fIx (vS 2) (vS 4)) aNil))) (tTupl (tgCons (tSub 2 (vS 4)) (tgCons (tSub 2 (vT (dBin fAdd (vS 4) (vT (dC (.int 1)))))) tgNil))))
  (sExpr (dMut 5 fAppend (aCons (dC (.int 1)) aNil)))) (sExpr (dMut 5 fAppend (aCons (dC (.int 0)) aNil))))
theorem s_no (t m g : O) (lay j x y : Int) (out : List O) (s3 s4 s6 : Sl) (ds : List D) (R : Out) (h4 : s4.pinned = false) (h6 : s6.pinned = false) (e1 : fIx g (.d (.int j)) = some (.d (.int y))) (e2 : fIx g (.d (.int (j + 1))) = some (.d (.int x))) (hxy : ¬ x < y) (hz : out.length < 1000)
  (h : sForL sT sB ds [.p t, .v m, .v g, s3, .v (.d (.int j)), .v (.lst (out ++ [.d (.int 0)])), .v (.d (.int lay))] = R) : sForL sT sB (.tup [.int lay, .int j] :: ds) [.p t, .v m, .v g, s3, s4, .v (.lst out), s6] = R := by
  have hz2 : out.length < sizeLine := Nat.lt_of_lt_of_le hz (by decide)
  rw [u2]
  simp [h4, h6, e1, e2, hxy, fAppend, hz2, h]
theorem s_yes (t m g g1 g2 : O) (lay j x y : Int) (out : List O) (s3 s4 s6 : Sl) (ds : List D) (R : Out) (h4 : s4.pinned = false) (h6 : s6.pinned = false) (e1 : fIx g (.d (.int j)) = some (.d (.int y))) (e2 : fIx g (.d (.int (j + 1))) = some (.d (.int x))) (hxy : x < y) (hz : out.length < 1000)
  (e3 : g.store (.d (.int j)) (.d (.int x)) = some g1) (e4 : g1.store (.d (.int (j + 1))) (.d (.int y)) = some g2)
  (h : sForL sT sB ds [.p t, .v m, .v g2, s3, .v (.d (.int j)), .v (.lst (out ++ [.d (.int 1)])), .v (.d (.int lay))] = R) : sForL sT sB (.tup [.int lay, .int j] :: ds) [.p t, .v m, .v g, s3, s4, .v (.lst out), s6] = R := by
  have hz2 : out.length < sizeLine := Nat.lt_of_lt_of_le hz (by decide)
  rw [u2]
  simp [h4, h6, e1, e2, hxy, e3, e4, size2', fAppend, hz2, h]
theorem s_loop (t m : O) (s3 : Sl) : ∀ (sw : List (Nat × Nat)) (g out : List Int) (s4 s6 : Sl), (∀ p ∈ sw, p.2 + 1 < g.length) → out.length + sw.length < 1000 → s4.pinned = false → s6.pinned = false →
    ∃ t4 t6, sForL sT sB (sw.map pairD) [.p t, .v m, .v (il g), s3, s4, .v (il out), s6] = .nx [.p t, .v m, .v (il (sortG sw g)), s3, t4, .v (il (out ++ sortS sw g)), t6]
  | [], g, out, s4, s6, _, _, h4, h6 => ⟨s4, s6, by simp [sortG, sortS]⟩
  | p :: sw, g, out, s4, s6, h, hz, h4, h6 => by
    have hp := h p List.mem_cons_self
    rw [List.length_cons] at hz
    have e1 : fIx (il g) (.d (.int (p.2 : Int))) = some (.d (.int (g.getD p.2 0))) := ix_il (l := g) (i := (p.2 : Int)) (by omega) (by omega)
    have e2 : fIx (il g) (.d (.int ((p.2 : Int) + 1))) = some (.d (.int (g.getD (p.2 + 1) 0))) := by
      have := ix_il (l := g) (i := (p.2 : Int) + 1) (by omega) (by omega)
      rw [show ((p.2 : Int) + 1).toNat = p.2 + 1 by omega] at this
      exact this
    have hlen : (out.map fun i => O.d (.int i)).length < 1000 := by rw [List.length_map]; omega
    by_cases hc : g.getD (p.2 + 1) 0 < g.getD p.2 0
    · obtain ⟨t4, t6, ih⟩ := s_loop t m s3 sw (swapN g p.2) (out ++ [1]) (.v (.d (.int (p.2 : Int)))) (.v (.d (.int (p.1 : Int)))) (fun q hq => by rw [swapN_len]; exact h q (List.mem_cons_of_mem _ hq)) (by simp; omega) rfl rfl
      refine ⟨t4, t6, ?_⟩
      have a1 : sortG (p :: sw) g = sortG sw (swapN g p.2) := by unfold sortG; rw [if_pos hc]; cases sw <;> rfl
      have a2 : sortS (p :: sw) g = 1 :: sortS sw (swapN g p.2) := by show (if _ then _ else _) = _; rw [if_pos hc]
      have e3 : (il g).store (.d (.int (p.2 : Int))) (.d (.int (g.getD (p.2 + 1) 0))) = some (il (g.set p.2 (g.getD (p.2 + 1) 0))) := store_il (l := g) (i := (p.2 : Int)) (by omega) (by omega)
      have e4 : (il (g.set p.2 (g.getD (p.2 + 1) 0))).store (.d (.int ((p.2 : Int) + 1))) (.d (.int (g.getD p.2 0))) = some (il (swapN g p.2)) := by
        have := store_il (l := g.set p.2 (g.getD (p.2 + 1) 0)) (i := (p.2 : Int) + 1) (x := g.getD p.2 0) (by omega) (by rw [List.length_set]; omega)
        rw [show ((p.2 : Int) + 1).toNat = p.2 + 1 by omega] at this
        exact this
      rw [a1, a2]
      rw [show out ++ 1 :: sortS sw (swapN g p.2) = (out ++ [1]) ++ sortS sw (swapN g p.2) by simp]
      refine s_yes t m _ _ _ _ _ _ _ _ s3 s4 s6 _ _ h4 h6 e1 e2 hc hlen e3 e4 ?_
      rw [show O.lst ((out.map fun i => O.d (.int i)) ++ [.d (.int 1)]) = il (out ++ [1]) by unfold il; rw [List.map_append]; rfl]
      exact ih
    · obtain ⟨t4, t6, ih⟩ := s_loop t m s3 sw g (out ++ [0]) (.v (.d (.int (p.2 : Int)))) (.v (.d (.int (p.1 : Int)))) (fun q hq => h q (List.mem_cons_of_mem _ hq)) (by simp; omega) rfl rfl
      refine ⟨t4, t6, ?_⟩
      have a1 : sortG (p :: sw) g = sortG sw g := by show sortG sw (if _ then _ else _) = _; rw [if_neg hc]
      have a2 : sortS (p :: sw) g = 0 :: sortS sw g := by show (if _ then _ else _) = _; rw [if_neg hc]
      rw [a1, a2]
      rw [show out ++ 0 :: sortS sw g = (out ++ [0]) ++ sortS sw g by simp]
      refine s_no t m _ _ _ _ _ _ s3 s4 s6 _ _ h4 h6 e1 e2 hc hlen ?_
      rw [show O.lst ((out.map fun i => O.d (.int i)) ++ [.d (.int 0)]) = il (out ++ [0]) by unfold il; rw [List.map_append]; rfl]
      exact ih
end K73

namespace K73
open PySem L2 MX
theorem bF (gT sT : Tg) (gB sB : En → Out) (C1 : En → Rs Bool) (X : En → Out) (ps : List D) (q : Int) (sw en : List D) (g0 g1 g2 out : List Int) (t3 t4 t5 t6 : Sl) (e0 : fLenU [.d (.tup ps)] = some (.d (.int q)))
  (hC : C1 [.p (.d (.tup ps)), .v (.d (.int q)), .no, .no, .no, .no, .no] = .ok false [.p (.d (.tup ps)), .v (.d (.int q)), .no, .no, .no, .no, .no])
  (e1 : fMul (.lst [.d (.int 0)]) (.d (.int q)) = some (il g0)) (e2 : gEnum [.tup ps] = some en)
  (h1 : sForL gT gB en [.p (.d (.tup ps)), .v (.d (.int q)), .v (il g0), .no, .no, .no, .no] = .nx [.p (.d (.tup ps)), .v (.d (.int q)), .v (il g1), t3, t4, .no, .no])
  (e3 : d__switches [.d (.int q)] = .ok (.lst (sw.map .d)) [some (.d (.int q))])
  (h2 : sForL sT sB sw [.p (.d (.tup ps)), .v (.d (.int q)), .v (il g1), t3, t4, .v (il []), .no] = .nx [.p (.d (.tup ps)), .v (.d (.int q)), .v (il g2), t3, t5, .v (il out), t6]) :
  (sSeq (sAsg (dCall fLenU (vCons (vS 0) vNil)) (tName 1))
  (sSeq (sIf C1 X sNext)
  (sSeq (sAsg (dBin fMul (vT (dLst (aCons (dC (.int 0)) aNil))) (vS 1)) (tName 2))
  (sSeq (sFor (iAr (aCons (dVar 0) aNil) gEnum) gT gB)
  (sSeq (sAsg (dLst aNil) (tName 5))
  (sSeq (sFor (iAny (dCallF d__switches [0] (cCons (gName 1) cNil))) sT sB)
  (sRet (dCall (on1 fTuple) (vCons (vS 5) vNil))))))))) [.p (.d (.tup ps)), .no, .no, .no, .no, .no, .no] = .rt (.d (.tup (out.map .int))) [.p (.d (.tup ps)), .v (.d (.int q)), .v (il g2), t3, t5, .v (il out), t6] := by
  have z1 : (1 : Nat) ≤ sizeLine := by decide
  rw [show il [] = .lst [] from rfl] at h2
  simp [e0, hC, e1, e2, h1, e3, h2, tup_il, z1, -y13]
end K73

namespace K73
open PySem L2 MX
/-! ### comparing lists of ints -/
theorem pys_ints : ∀ l : List Int, pys (l.map D.int) = some (l.map PyData.int)
  | [] => rfl
  | x :: l => by
    show (match D.py (.int x), pys (l.map D.int) with
      | some p, some ps => some (p :: ps)
      | _, _ => none) = _
    rw [pys_ints l]; rfl
theorem eqv_ints : ∀ a b : List Int, PyData.eqvAll (a.map .int) (b.map .int) = decide (a = b)
  | [], [] => by simp [PyData.eqvAll]
  | [], y :: b => by simp [PyData.eqvAll]
  | x :: a, [] => by simp [PyData.eqvAll]
  | x :: a, y :: b => by
    show PyData.eqvAll (.int x :: a.map .int) (.int y :: b.map .int) = _
    rw [PyData.eqvAll, eqv_ints a b]
    by_cases h : x = y <;> simp [PyData.eqv, h]
theorem lay_ints : ∀ l : List Int, PyData.canLayAll0 (l.map .int) = true
  | [] => by simp [PyData.canLayAll0]
  | x :: l => by
    show PyData.canLayAll0 (.int x :: l.map .int) = true
    rw [PyData.canLayAll0, lay_ints l]; simp [PyData.canLay0]
theorem dep_ints : ∀ l : List Int, PyData.depthAll (l.map .int) = 0
  | [] => by simp [PyData.depthAll]
  | x :: l => by
    show PyData.depthAll (.int x :: l.map .int) = 0
    rw [PyData.depthAll, dep_ints l]; simp [PyData.depth]
theorem shL (l : List Int) : SeqAt.shaped (.list (l.map .int)) = true := by
  unfold SeqAt.shaped
  rw [PyData.canLay0, lay_ints, PyData.depth, dep_ints]; rfl
theorem shT (l : List Int) : SeqAt.shaped (.tuple (l.map .int)) = true := by
  unfold SeqAt.shaped
  rw [PyData.canLay0, lay_ints, PyData.depth, dep_ints]; rfl
theorem il_py (l : List Int) : (il l).fz.py = some (.list (l.map .int)) := by
  rw [il_leaf, z103, z104]
  show (pys (l.map D.int)).map PyData.list = _
  rw [pys_ints]; rfl
theorem deq_il (a b : List Int) : deq (il a) (il b) = some (decide (a = b)) := by
  show deqD (il a) (il b) = _
  unfold deqD
  rw [il_py, il_py]
  show (if (SeqAt.shaped (.list (a.map .int)) && SeqAt.shaped (.list (b.map .int))) = true then some (PyData.eqv (.list (a.map .int)) (.list (b.map .int))) else none) = _
  rw [shL, shL, PyData.eqv, eqv_ints]; rfl
theorem deq_tl (a b : List Int) : deq (.d (.tup (a.map .int))) (.d (.tup (b.map .int))) = some (decide (a = b)) := by
  show deqD (.d (.tup (a.map .int))) (.d (.tup (b.map .int))) = _
  unfold deqD
  show (match (pys (a.map .int)).map PyData.tuple, (pys (b.map .int)).map PyData.tuple with
    | some p, some q => if (SeqAt.shaped p && SeqAt.shaped q) = true then some (PyData.eqv p q) else none
    | _, _ => none) = _
  rw [pys_ints, pys_ints]
  show (if (SeqAt.shaped (.tuple (a.map .int)) && SeqAt.shaped (.tuple (b.map .int))) = true then some (PyData.eqv (.tuple (a.map .int)) (.tuple (b.map .int))) else none) = _
  rw [shT, shT, PyData.eqv, eqv_ints]; rfl
theorem ne_il (a b : List Int) : fNe (il a) (il b) = some (.d (.bl (!decide (a = b)))) := by unfold fNe; rw [deq_il]; rfl
theorem ne_tl (a b : List Int) : fNe (.d (.tup (a.map .int))) (.d (.tup (b.map .int))) = some (.d (.bl (!decide (a = b)))) := by unfold fNe; rw [deq_tl]; rfl
end K73

namespace K73
open PySem L2 MX
theorem intsD_map : ∀ l : List Int, intsD (l.map D.int) = some l
  | [] => rfl
  | x :: l => by
    show (intsD (l.map D.int)).map (x :: ·) = _
    rw [intsD_map l]; rfl
theorem sorted_tl (l : List Int) : on1 fSorted [.d (.tup (l.map .int))] = some (il (sortI l)) := by
  show (intsD (l.map D.int)).map _ = _
  rw [intsD_map]; rfl
theorem range_sorted (n : Nat) : (rangeI n).Pairwise (· ≤ ·) := by
  unfold rangeI
  rw [List.pairwise_map]
  exact (List.pairwise_lt_range (n := n)).imp fun h => by omega
theorem sort_iff (l : List Int) (n : Nat) : sortI l = rangeI n ↔ l.Perm (rangeI n) := by
  constructor
  · intro h; rw [← h]; exact sortI_perm.symm
  · intro h; exact sorted_uniq (sortI_perm.trans h) sortI_sorted (range_sorted n)
end K73

namespace K73
open PySem L2 MX
abbrev srtC : En → Rs Bool := (dTst (dBin fNe (vT (dCall (on1 fSorted) (vCons (vS 0) vNil))) (vT (dLRg (rg1 (vS 1))))))
theorem srt_c (ps : List D) (q : Int) (a b : List Int) (s2 s3 s4 s5 s6 : Sl) (e1 : on1 fSorted [.d (.tup ps)] = some (il a)) (r1 : rgB 0 q = true) (r2 : O.lst ((rgD 0 q).map .d) = il b) :
   srtC [.p (.d (.tup ps)), .v (.d (.int q)), s2, s3, s4, s5, s6] = .ok (!decide (a = b)) [.p (.d (.tup ps)), .v (.d (.int q)), s2, s3, s4, s5, s6] := by
  simp [e1, r1, r2, ne_il]
theorem dF (ps : List D) (o : O) (s1 s2 s3 s4 s5 s6 : Sl) (h : b_settings_for [.p (.d (.tup ps)), .no, .no, .no, .no, .no, .no] = .rt o [.p (.d (.tup ps)), s1, s2, s3, s4, s5, s6]) :
  d_settings_for [.d (.tup ps)] = .ok o [some (.d (.tup ps))] := by
  show denFn _ _ _ _ = _
  exact den_rt rfl h rfl
theorem mulS0 (k : Int) : fMulS (.lst [.d (.int 0)]) (.d (.int k)) = none := Eq.trans rfl rfl
theorem mulW0 (k : Int) : fMulW (.lst [.d (.int 0)]) (.d (.int k)) = none := Eq.trans rfl rfl
theorem mulB (n : Nat) (x y : O) (e1 : fMulS x y = none) (e2 : fMulW x y = none) (e : fRepL x y = some (il (List.replicate n 0))) : fMul x y = some (il (List.replicate n 0)) := by
  unfold fMul
  rw [e1, e2, e]
theorem mul0 (n : Nat) (h : n ≤ 1000) : fMul (.lst [.d (.int 0)]) (.d (.int (n : Int))) = some (il (List.replicate n 0)) := by
  have e : fRepL (.lst [.d (.int 0)]) (.d (.int (n : Int))) = some (il (List.replicate n 0)) := by
    unfold fRepL
    simp only [show leafs [O.d (.int 0)] = some [D.int 0] from rfl]
    have hz : 1000 ≤ sizeLine := by decide
    rw [if_pos ⟨by omega, by omega, by rw [List.length_singleton, Int.toNat_natCast]; omega⟩, il_leaf]
    unfold repD
    rw [Int.toNat_natCast]
    simp [List.map_replicate]
  exact mulB n _ _ (mulS0 _) (mulW0 _) e
theorem v_set (l : List Int) (n : Nat) (hn : n ≤ 12) (hl : l.length = n) (hp : l.Perm (rangeI n)) :
    d_settings_for [.d (.tup (l.map .int))] = .ok (.d (.tup ((sortS (swL n) (putG 0 l (List.replicate n 0))).map .int))) [some (.d (.tup (l.map .int)))] := by
  have hr : ∀ p ∈ l, 0 ≤ p ∧ p < (List.replicate n (0 : Int)).length := fun p q => by
    have := hp.mem_iff.mp q
    unfold rangeI at this
    obtain ⟨i, hi, he⟩ := List.mem_map.mp this
    rw [List.mem_range] at hi
    rw [List.length_replicate]
    omega
  have e0 : fLenU [.d (.tup (l.map .int))] = some (.d (.int (n : Int))) := by rw [y13, List.length_map, hl]
  obtain ⟨t3, t4, k3, k4, h1⟩ := g_loop (.d (.tup (l.map .int))) (.d (.int (n : Int))) l (List.replicate n 0) 0 .no .no .no .no hr rfl rfl
  obtain ⟨t5, t6, h2⟩ := s_loop (.d (.tup (l.map .int))) (.d (.int (n : Int))) t3 (swL n) (putG 0 l (List.replicate n 0)) [] t4 .no (fun p q => by rw [putG_len, List.length_replicate]; exact sw_in n hn p q) (by
    rw [sw_len n hn]
    have : n * (n - 1) ≤ 12 * 11 := Nat.mul_le_mul hn (by omega)
    show 0 + _ < _
    omega) k4 rfl
  have hC := srt_c (l.map .int) n (sortI l) (rangeI n) .no .no .no .no .no (sorted_tl l) (rgB_n (by omega)) (rg_il n)
  rw [(sort_iff l n).mpr hp] at hC
  exact dF _ _ _ _ _ _ _ _ (bF gT sT gB sB srtC (sRaise "BadStatement") _ _ ((swL n).map pairD) _ _ _ _ _ t3 t4 t5 t6 e0 (by simpa using hC) (mul0 n (by omega)) rfl h1 (v_psw n hn) h2)
end K73

namespace K73
open PySem L2 MX
theorem bFb (C1 : En → Rs Bool) (Y : En → Out) (ps : List D) (q : Int) (e0 : fLenU [.d (.tup ps)] = some (.d (.int q)))
  (hC : C1 [.p (.d (.tup ps)), .v (.d (.int q)), .no, .no, .no, .no, .no] = .ok true [.p (.d (.tup ps)), .v (.d (.int q)), .no, .no, .no, .no, .no]) :
  (sSeq (sAsg (dCall fLenU (vCons (vS 0) vNil)) (tName 1)) (sSeq (sIf C1 (sRaise "BadStatement") sNext) Y)) [.p (.d (.tup ps)), .no, .no, .no, .no, .no, .no] = .exc "BadStatement" [] [.p (.d (.tup ps)), .v (.d (.int q)), .no, .no, .no, .no, .no] := by
  simp [e0, hC, -y13]
theorem dFb (ps : List D) (s1 s2 s3 s4 s5 s6 : Sl) (h : b_settings_for [.p (.d (.tup ps)), .no, .no, .no, .no, .no, .no] = .exc "BadStatement" [] [.p (.d (.tup ps)), s1, s2, s3, s4, s5, s6]) :
  d_settings_for [.d (.tup ps)] = .exc "BadStatement" [] [some (.d (.tup ps))] := by
  show denFn _ _ _ _ = _
  exact den_ex rfl h rfl
theorem v_set_bad (l : List Int) (hl : l.length ≤ 1000) (hp : ¬ l.Perm (rangeI l.length)) :
    d_settings_for [.d (.tup (l.map .int))] = .exc "BadStatement" [] [some (.d (.tup (l.map .int)))] := by
  have e0 : fLenU [.d (.tup (l.map .int))] = some (.d (.int (l.length : Int))) := by rw [y13, List.length_map]
  have hC := srt_c (l.map .int) l.length (sortI l) (rangeI l.length) .no .no .no .no .no (sorted_tl l) (rgB_n hl) (rg_il _)
  rw [decide_eq_false (fun h => hp ((sort_iff l _).mp h))] at hC
  exact dFb _ _ _ _ _ _ _ (bFb srtC _ _ _ e0 hC)
end K73

namespace K73
open PySem L2 MX
/-! ### the network sorts: 0-1 principle, all bit rows at once -/
def cols : Nat → List Nat
  | 0 => []
  | n + 1 => ((2 ^ 2 ^ n - 1) <<< 2 ^ n) :: (cols n).map fun c => c ||| (c <<< 2 ^ n)
def sortC : List (Nat × Nat) → List Nat → List Nat
  | [], cs => cs
  | p :: sw, cs => sortC sw ((cs.set p.2 (cs.getD p.2 0 &&& cs.getD (p.2 + 1) 0)).set (p.2 + 1) (cs.getD p.2 0 ||| cs.getD (p.2 + 1) 0))
def sortB : List (Nat × Nat) → List Bool → List Bool
  | [], bs => bs
  | p :: sw, bs => sortB sw ((bs.set p.2 (bs.getD p.2 false && bs.getD (p.2 + 1) false)).set (p.2 + 1) (bs.getD p.2 false || bs.getD (p.2 + 1) false))
def chk : List Nat → Bool
  | a :: b :: r => (a &&& b == a) && chk (b :: r)
  | _ => true
theorem chk_all : ∀ n : Nat, n ≤ 12 → chk (sortC (swL n) (cols n)) = true := by decide +kernel
theorem cols_len : ∀ n : Nat, (cols n).length = n
  | 0 => rfl
  | n + 1 => by unfold cols; rw [List.length_cons, List.length_map, cols_len n]
theorem cols_lt : ∀ n : Nat, ∀ c ∈ cols n, c < 2 ^ 2 ^ n
  | 0, c, h => nomatch h
  | n + 1, c, h => by
    have e : 2 ^ 2 ^ (n + 1) = 2 ^ 2 ^ n * 2 ^ 2 ^ n := by rw [← Nat.pow_add]; congr 1; rw [Nat.pow_succ]; omega
    have hpos : 0 < 2 ^ 2 ^ n := Nat.two_pow_pos _
    have e2 : 2 ^ 2 ^ (n + 1) = 2 ^ (2 ^ n + 2 ^ n) := by congr 1; rw [Nat.pow_succ]; omega
    unfold cols at h
    rcases List.mem_cons.mp h with q | q
    · rw [q, Nat.shiftLeft_eq, e]
      exact Nat.mul_lt_mul_of_pos_right (by omega) hpos
    · obtain ⟨d, hd, he⟩ := List.mem_map.mp q
      have hl := cols_lt n d hd
      rw [← he]
      refine Nat.or_lt_two_pow (Nat.lt_of_lt_of_le hl (Nat.pow_le_pow_right (by decide) (by rw [Nat.pow_succ]; omega))) ?_
      rw [Nat.shiftLeft_eq, e]
      exact Nat.mul_lt_mul_of_pos_right hl hpos
theorem cols_sel : ∀ b : List Bool, ∃ i, i < 2 ^ b.length ∧ (cols b.length).map (·.testBit i) = b
  | [] => ⟨0, by decide, rfl⟩
  | x :: b => by
    obtain ⟨i, hi, he⟩ := cols_sel b
    have hp : 2 ^ (b.length + 1) = 2 ^ b.length + 2 ^ b.length := by rw [Nat.pow_succ]; omega
    cases x with
    | false =>
      refine ⟨i, by rw [List.length_cons]; omega, ?_⟩
      show ((2 ^ 2 ^ b.length - 1) <<< 2 ^ b.length).testBit i :: ((cols b.length).map fun c => c ||| (c <<< 2 ^ b.length)).map (·.testBit i) = _
      rw [List.map_map]
      congr 1
      · rw [Nat.testBit_shiftLeft, decide_eq_false (by omega)]; rfl
      · rw [← he]
        simp only [List.map_map, List.length_map, cols_len]
        refine List.map_congr_left fun c hc => ?_
        show (c ||| (c <<< 2 ^ b.length)).testBit i = _
        rw [Nat.testBit_or, Nat.testBit_shiftLeft, decide_eq_false (by omega)]
        simp
    | true =>
      refine ⟨i + 2 ^ b.length, by rw [List.length_cons]; omega, ?_⟩
      show ((2 ^ 2 ^ b.length - 1) <<< 2 ^ b.length).testBit (i + 2 ^ b.length) :: ((cols b.length).map fun c => c ||| (c <<< 2 ^ b.length)).map (·.testBit (i + 2 ^ b.length)) = _
      rw [List.map_map]
      congr 1
      · rw [Nat.testBit_shiftLeft, decide_eq_true (by omega), Nat.add_sub_cancel, Nat.testBit_two_pow_sub_one, decide_eq_true hi]; rfl
      · conv => rhs; rw [← he]
        refine List.map_congr_left fun c hc => ?_
        show (c ||| (c <<< 2 ^ b.length)).testBit (i + 2 ^ b.length) = _
        have hl := cols_lt _ c hc
        rw [Nat.testBit_or, Nat.testBit_shiftLeft, decide_eq_true (by omega), Nat.add_sub_cancel, Nat.testBit_lt_two_pow (Nat.lt_of_lt_of_le hl (Nat.pow_le_pow_right (by decide) (by omega)))]
        simp
end K73

namespace K73
open PySem L2 MX
theorem getD_map' {α β : Type} (f : α → β) (l : List α) (k : Nat) (x : α) : (l.map f).getD k (f x) = f (l.getD k x) := by
  rw [List.getD_eq_getElem?_getD, List.getD_eq_getElem?_getD, List.getElem?_map]
  cases l[k]? <;> rfl
theorem sortC_B : ∀ (sw : List (Nat × Nat)) (cs : List Nat) (i : Nat), (sortC sw cs).map (·.testBit i) = sortB sw (cs.map (·.testBit i))
  | [], _, _ => rfl
  | p :: sw, cs, i => by
    show (sortC sw _).map _ = sortB sw _
    rw [sortC_B sw _ i]
    congr 1
    have e : ∀ k : Nat, (cs.map (·.testBit i)).getD k false = (cs.getD k 0).testBit i := fun k => by
      have := getD_map' (fun c : Nat => c.testBit i) cs k 0
      rw [← this]; simp
    rw [e, e, List.map_set, List.map_set, Nat.testBit_and, Nat.testBit_or]
theorem set_same {α : Type} (l : List α) (k : Nat) (x d : α) (h : k < l.length) (e : l.getD k d = x) : l.set k x = l := by
  apply List.ext_getElem?
  intro i
  by_cases q : k = i
  · subst q
    rw [List.getElem?_set_self h, ← e, List.getD_eq_getElem?_getD, List.getElem?_eq_getElem h]; rfl
  · rw [List.getElem?_set_ne q]
theorem sortG_B (t : Int) : ∀ (sw : List (Nat × Nat)) (g : List Int), (∀ p ∈ sw, p.2 + 1 < g.length) → (sortG sw g).map (fun x => decide (t ≤ x)) = sortB sw (g.map fun x => decide (t ≤ x))
  | [], _, _ => rfl
  | p :: sw, g, h => by
    have hp := h p List.mem_cons_self
    show (sortG sw _).map _ = sortB sw _
    have e : ∀ k : Nat, k < g.length → (g.map fun x => decide (t ≤ x)).getD k false = decide (t ≤ g.getD k 0) := fun k hk => by
      rw [List.getD_eq_getElem?_getD, List.getElem?_map, List.getD_eq_getElem?_getD, List.getElem?_eq_getElem hk]; rfl
    rw [e p.2 (by omega), e (p.2 + 1) hp]
    by_cases hc : g.getD (p.2 + 1) 0 < g.getD p.2 0
    · rw [if_pos hc, sortG_B t sw _ (fun q hq => by rw [swapN_len]; exact h q (List.mem_cons_of_mem _ hq))]
      congr 1
      unfold swapN
      rw [List.map_set, List.map_set]
      congr 1
      · congr 1
        generalize g.getD (p.2 + 1) 0 = a at *
        generalize g.getD p.2 0 = b at *
        by_cases ha : t ≤ a <;> by_cases hb : t ≤ b <;> simp [ha, hb] <;> omega
      · generalize g.getD (p.2 + 1) 0 = a at *
        generalize g.getD p.2 0 = b at *
        by_cases ha : t ≤ a <;> by_cases hb : t ≤ b <;> simp [ha, hb] <;> omega
    · rw [if_neg hc, sortG_B t sw g (fun q hq => h q (List.mem_cons_of_mem _ hq))]
      congr 1
      have hx : (decide (t ≤ g.getD p.2 0) && decide (t ≤ g.getD (p.2 + 1) 0)) = decide (t ≤ g.getD p.2 0) := by
        generalize g.getD (p.2 + 1) 0 = a at *
        generalize g.getD p.2 0 = b at *
        by_cases ha : t ≤ a <;> by_cases hb : t ≤ b <;> simp [ha, hb] <;> omega
      have hy : (decide (t ≤ g.getD p.2 0) || decide (t ≤ g.getD (p.2 + 1) 0)) = decide (t ≤ g.getD (p.2 + 1) 0) := by
        generalize g.getD (p.2 + 1) 0 = a at *
        generalize g.getD p.2 0 = b at *
        by_cases ha : t ≤ a <;> by_cases hb : t ≤ b <;> simp [ha, hb] <;> omega
      rw [hx, hy, set_same _ _ _ false (by rw [List.length_map]; omega) (e p.2 (by omega)), set_same _ _ _ false (by rw [List.length_map]; omega) (e (p.2 + 1) hp)]
theorem sortG_len : ∀ {sw : List (Nat × Nat)} {g : List Int}, (sortG sw g).length = g.length
  | [], _ => rfl
  | p :: sw, g => by
    show (sortG sw _).length = _
    rw [sortG_len]
    split
    · exact swapN_len
    · rfl
theorem chk_get : ∀ (cs : List Nat), chk cs = true → ∀ k, k + 1 < cs.length → cs.getD k 0 &&& cs.getD (k + 1) 0 = cs.getD k 0
  | [], _, k, h => absurd h (by simp)
  | [a], _, k, h => absurd h (by simp)
  | a :: b :: r, hc, 0, h => by
    unfold chk at hc
    exact eq_of_beq (Bool.and_eq_true_iff.mp hc).1
  | a :: b :: r, hc, k + 1, h => by
    unfold chk at hc
    have := chk_get (b :: r) (Bool.and_eq_true_iff.mp hc).2 k (by simpa using h)
    simpa using this
theorem net_sorts (n : Nat) (hn : n ≤ 12) (g : List Int) (hg : g.length = n) (k : Nat) (hk : k + 1 < n) : (sortG (swL n) g).getD k 0 ≤ (sortG (swL n) g).getD (k + 1) 0 := by
  refine Int.not_lt.mp fun hlt => ?_
  have hb := sortG_B ((sortG (swL n) g).getD k 0) (swL n) g (fun p hp => by rw [hg]; exact sw_in n hn p hp)
  obtain ⟨i, _, hi⟩ := cols_sel (g.map fun x => decide ((sortG (swL n) g).getD k 0 ≤ x))
  rw [List.length_map, hg] at hi
  rw [← hi, ← sortC_B] at hb
  generalize hF : sortG (swL n) g = F at *
  have hl : F.length = n := by rw [← hF, sortG_len, hg]
  generalize hC : sortC (swL n) (cols n) = C at *
  have hCl : C.length = n := by
    have := congrArg List.length hb
    rw [List.length_map, List.length_map] at this
    omega
  have hch := chk_get C (by rw [← hC]; exact chk_all n hn) k (by omega)
  have g1 : ∀ j, j < n → decide (F.getD k 0 ≤ F.getD j 0) = (C.getD j 0).testBit i := fun j hj => by
    have := congrArg (fun l => l[j]?) hb
    rw [List.getElem?_map, List.getElem?_map, List.getElem?_eq_getElem (show j < F.length by omega), List.getElem?_eq_getElem (show j < C.length by omega)] at this
    rw [List.getD_eq_getElem?_getD (l := F) (i := j), List.getD_eq_getElem?_getD (l := C), List.getElem?_eq_getElem (show j < F.length by omega), List.getElem?_eq_getElem (show j < C.length by omega)]
    exact Option.some.inj this
  have a1 := g1 k (by omega)
  have a2 := g1 (k + 1) hk
  rw [decide_eq_true (Int.le_refl _)] at a1
  rw [decide_eq_false (by omega)] at a2
  have := congrArg (·.testBit i) hch
  simp only [Nat.testBit_and] at this
  rw [← a1, ← a2] at this
  cases this
end K73

namespace K73
open PySem L2 MX
/-! ### an order and its goals run together -/
def swp (j k : Nat) : Nat := if k = j then j + 1 else if k = j + 1 then j else k
theorem getD_set {l : List Int} {j k : Nat} {x : Int} (h : j < l.length) : (l.set j x).getD k 0 = if j = k then x else l.getD k 0 := by
  rw [List.getD_eq_getElem?_getD, List.getD_eq_getElem?_getD]
  by_cases q : j = k
  · rw [if_pos q, ← q, List.getElem?_set_self h]; rfl
  · rw [if_neg q, List.getElem?_set_ne q]
theorem swapN_getD {l : List Int} {j k : Nat} (h : j + 1 < l.length) : (swapN l j).getD k 0 = l.getD (swp j k) 0 := by
  unfold swapN swp
  rw [getD_set (by rw [List.length_set]; exact h), getD_set (by omega)]
  by_cases q : k = j
  · subst q; rw [if_neg (by omega), if_pos rfl, if_pos rfl]
  · by_cases q2 : k = j + 1
    · rw [if_pos q2.symm, if_neg q, if_pos q2]
    · rw [if_neg (fun e => q2 e.symm), if_neg (fun e => q e.symm), if_neg q, if_neg q2]
structure Inv (n : Nat) (l c g : List Int) : Prop where
  lc : c.length = n
  lg : g.length = n
  at_ : ∀ k, k < n → 0 ≤ g.getD k 0 ∧ g.getD k 0 < n ∧ l.getD (g.getD k 0).toNat 0 = c.getD k 0
  inj : ∀ a b, a < n → b < n → c.getD a 0 = c.getD b 0 → a = b
theorem swp_lt {n j k : Nat} (hj : j + 1 < n) (hk : k < n) : swp j k < n := by unfold swp; split <;> (try split) <;> omega
theorem swp_inj {j a b : Nat} (h : swp j a = swp j b) : a = b := by
  unfold swp at h
  split at h <;> split at h <;> (try split at h) <;> (try split at h) <;> omega
theorem Inv.swap {n : Nat} {l c g : List Int} (h : Inv n l c g) {j : Nat} (hj : j + 1 < n) : Inv n l (swapN c j) (swapN g j) := by
  refine ⟨by rw [swapN_len, h.lc], by rw [swapN_len, h.lg], fun k hk => ?_, fun a b ha hb e => ?_⟩
  · rw [swapN_getD (by rw [h.lg]; exact hj), swapN_getD (by rw [h.lc]; exact hj)]
    exact h.at_ _ (swp_lt hj hk)
  · rw [swapN_getD (by rw [h.lc]; exact hj), swapN_getD (by rw [h.lc]; exact hj)] at e
    exact swp_inj (h.inj _ _ (swp_lt hj ha) (swp_lt hj hb) e)
theorem Inv.run {n : Nat} {l : List Int} : ∀ (sw : List (Nat × Nat)) (c g : List Int), (∀ p ∈ sw, p.2 + 1 < n) → Inv n l c g → Inv n l (runS sw (sortS sw g) c) (sortG sw g)
  | [], c, g, _, h => h
  | p :: sw, c, g, hp, h => by
    have hr : ∀ q ∈ sw, q.2 + 1 < n := fun q hq => hp q (List.mem_cons_of_mem _ hq)
    by_cases hc : g.getD (p.2 + 1) 0 < g.getD p.2 0
    · have a1 : sortG (p :: sw) g = sortG sw (swapN g p.2) := by show sortG sw (if _ then _ else _) = _; rw [if_pos hc]
      have a2 : sortS (p :: sw) g = 1 :: sortS sw (swapN g p.2) := by show (if _ then _ else _) = _; rw [if_pos hc]
      rw [a1, a2]
      exact Inv.run sw (swapN c p.2) (swapN g p.2) hr (h.swap (hp p List.mem_cons_self))
    · have a1 : sortG (p :: sw) g = sortG sw g := by show sortG sw (if _ then _ else _) = _; rw [if_neg hc]
      have a2 : sortS (p :: sw) g = 0 :: sortS sw g := by show (if _ then _ else _) = _; rw [if_neg hc]
      rw [a1, a2]
      exact Inv.run sw c g hr h
theorem rangeI_getD {n k : Nat} (h : k < n) : (rangeI n).getD k 0 = (k : Int) := by
  unfold rangeI
  rw [List.getD_eq_getElem?_getD, List.getElem?_map, List.getElem?_range h]; rfl
theorem rangeI_mem {n : Nat} {x : Int} : x ∈ rangeI n ↔ 0 ≤ x ∧ x < n := by
  unfold rangeI
  constructor
  · intro h
    obtain ⟨i, hi, he⟩ := List.mem_map.mp h
    rw [List.mem_range] at hi
    omega
  · intro h
    exact List.mem_map.mpr ⟨x.toNat, List.mem_range.mpr (by omega), by omega⟩
theorem rangeI_nodup (n : Nat) : (rangeI n).Nodup := by
  unfold rangeI
  rw [List.Nodup, List.pairwise_map]
  exact (List.pairwise_lt_range (n := n)).imp fun h => by omega
/-- where places are put -/
theorem putG_get : ∀ (ps g : List Int) (i k : Nat), ps.Nodup → (∀ p ∈ ps, 0 ≤ p ∧ p < g.length) →
    ((putG i ps g).getD k 0 = g.getD k 0 ∧ (k : Int) ∉ ps) ∨ ∃ j, j < ps.length ∧ ps.getD j 0 = (k : Int) ∧ (putG i ps g).getD k 0 = ((i + j : Nat) : Int)
  | [], g, i, k, _, _ => .inl ⟨rfl, by simp⟩
  | p :: ps, g, i, k, hn, h => by
    have hp := h p List.mem_cons_self
    have hn2 := List.nodup_cons.mp hn
    rcases putG_get ps (g.set p.toNat (i : Int)) (i + 1) k hn2.2 (fun q hq => by rw [List.length_set]; exact h q (List.mem_cons_of_mem _ hq)) with ⟨q1, q2⟩ | ⟨j, q1, q2, q3⟩
    · rw [getD_set (by omega)] at q1
      by_cases e : p.toNat = k
      · rw [if_pos e] at q1
        refine .inr ⟨0, by simp, ?_, ?_⟩
        · show p = _; omega
        · exact q1
      · rw [if_neg e] at q1
        refine .inl ⟨q1, fun hm => ?_⟩
        rcases List.mem_cons.mp hm with r | r
        · omega
        · exact q2 r
    · refine .inr ⟨j + 1, by rw [List.length_cons]; omega, ?_, ?_⟩
      · exact q2
      · show (putG (i + 1) ps _).getD k 0 = _
        rw [q3]; congr 1; omega
theorem inv0 {n : Nat} {l : List Int} (hp : l.Perm (rangeI n)) : Inv n l (rangeI n) (putG 0 l (List.replicate n 0)) := by
  have hl : l.length = n := by rw [hp.length_eq, rangeI_len]
  refine ⟨rangeI_len, by rw [putG_len, List.length_replicate], fun k hk => ?_, fun a b ha hb e => by rw [rangeI_getD ha, rangeI_getD hb] at e; omega⟩
  rcases putG_get l (List.replicate n 0) 0 k (hp.nodup_iff.mpr (rangeI_nodup n)) (fun p hq => by rw [List.length_replicate]; exact rangeI_mem.mp (hp.mem_iff.mp hq)) with ⟨_, q2⟩ | ⟨j, q1, q2, q3⟩
  · exact absurd (hp.mem_iff.mpr (rangeI_mem.mpr ⟨by omega, by omega⟩)) q2
  · rw [q3, rangeI_getD hk]
    refine ⟨by omega, by omega, ?_⟩
    rw [show (((0 + j : Nat) : Int)).toNat = j by omega, q2]
theorem ext_getD {a b : List Int} (h : a.length = b.length) (e : ∀ k, k < a.length → a.getD k 0 = b.getD k 0) : a = b := by
  apply List.ext_getElem h
  intro i h1 h2
  have := e i h1
  rw [List.getD_eq_getElem?_getD, List.getD_eq_getElem?_getD, List.getElem?_eq_getElem h1, List.getElem?_eq_getElem h2] at this
  exact this
/-- what the goals end as -/
theorem inv_end {n : Nat} {l c g : List Int} (h : Inv n l c g) (hs : ∀ k, k + 1 < n → g.getD k 0 ≤ g.getD (k + 1) 0) : ∀ k, k < n → g.getD k 0 = (k : Int) := by
  have inj : ∀ a b, a < n → b < n → g.getD a 0 = g.getD b 0 → a = b := fun a b ha hb e => by
    have e1 := (h.at_ a ha).2.2
    have e2 := (h.at_ b hb).2.2
    rw [e, e2] at e1
    exact (h.inj _ _ hb ha e1).symm
  have lo : ∀ k, k < n → (k : Int) ≤ g.getD k 0 := by
    intro k
    induction k with
    | zero => intro hk; exact (h.at_ 0 hk).1
    | succ k ih =>
      intro hk
      have a := ih (by omega)
      have b := hs k hk
      have d : g.getD k 0 ≠ g.getD (k + 1) 0 := fun e => absurd (inj _ _ (by omega) hk e) (by omega)
      omega
  have hi : ∀ m k, k + m + 1 = n → g.getD k 0 ≤ (k : Int) := by
    intro m
    induction m with
    | zero => intro k hk; have := (h.at_ k (by omega)).2.1; omega
    | succ m ih =>
      intro k hk
      have a := ih (k + 1) (by omega)
      have b := hs k (by omega)
      have d : g.getD k 0 ≠ g.getD (k + 1) 0 := fun e => absurd (inj _ _ (by omega) (by omega) e) (by omega)
      omega
  intro k hk
  have := lo k hk
  have := hi (n - 1 - k) k (by omega)
  omega
/-- the settings give the order back -/
theorem run_back {n : Nat} (hn : n ≤ 12) {l : List Int} (hp : l.Perm (rangeI n)) : runS (swL n) (sortS (swL n) (putG 0 l (List.replicate n 0))) (rangeI n) = l := by
  have h0 := inv0 hp
  have h1 := Inv.run (swL n) _ _ (fun p hq => sw_in n hn p hq) h0
  have h2 := inv_end h1 (fun k hk => net_sorts n hn _ h0.lg k hk)
  refine ext_getD (by rw [h1.lc, hp.length_eq, rangeI_len]) fun k hk => ?_
  rw [h1.lc] at hk
  have := (h1.at_ k hk).2.2
  rw [h2 k hk] at this
  exact this.symm
end K73

namespace K73
open PySem L2 MX
/-! ### the law's own goals -/
abbrev qB : En → Out := (sSeq (sAsg (dBin fGt (vT (dBin fIx (vS 2) (vS 5))) (vT (dBin fIx (vS 2) (vT (dBin fAdd (vS 5) (vT (dC (.int 1)))))))) (tName 6))
  (sSeq (sExpr (dMut 3 fAppend (aCons (dCall (on1 fInt) (vCons (vS 6) vNil)) aNil)))
  (sIf (dTst (dVar 6)) (sAsg (dBin fAdd (vT (dBin fAdd (vT (dSl fSl (vS 2) oNone (oSome (vS 5)))) (vT (dLst (aCons (dBin fIx (vS 2) (vT (dBin fAdd (vS 5) (vT (dC (.int 1)))))) (aCons (dBin fIx (vS 2) (vS 5)) aNil)))))) (vT (dSl fSl (vS 2) (oSome (vT (dBin fAdd (vS 5) (vT (dC (.int 2)))))) oNone))) (tName 2)) sNext)))
abbrev qT : Tg := (tTupl (tgCons (tName 4) (tgCons (tName 5) tgNil)))
theorem q_no (t m g : O) (lay j x y : Int) (out : List O) (s4 s5 s6 s7 : Sl) (ds : List D) (R : Out) (h4 : s4.pinned = false) (h5 : s5.pinned = false) (h6 : s6.pinned = false) (e1 : fIx g (.d (.int j)) = some (.d (.int y))) (e2 : fIx g (.d (.int (j + 1))) = some (.d (.int x))) (hxy : ¬ x < y) (hz : out.length < 1000)
  (h : sForL qT qB ds [.p t, .v m, .v g, .v (.lst (out ++ [.d (.int 0)])), .v (.d (.int lay)), .v (.d (.int j)), .v (.d (.bl false)), s7] = R) : sForL qT qB (.tup [.int lay, .int j] :: ds) [.p t, .v m, .v g, .v (.lst out), s4, s5, s6, s7] = R := by
  have hz2 : out.length < sizeLine := Nat.lt_of_lt_of_le hz (by decide)
  rw [u2]
  simp [h4, h5, h6, e1, e2, hxy, fAppend, hz2, h]
theorem q_yes (t m g l1 l2 l3 l4 : O) (lay j x y : Int) (out : List O) (s4 s5 s6 s7 : Sl) (ds : List D) (R : Out) (h4 : s4.pinned = false) (h5 : s5.pinned = false) (h6 : s6.pinned = false) (e1 : fIx g (.d (.int j)) = some (.d (.int y))) (e2 : fIx g (.d (.int (j + 1))) = some (.d (.int x))) (hxy : x < y) (hz : out.length < 1000)
  (c1 : fSl g none (some j) = some l1) (c4 : fSl g (some (j + 2)) none = some l2) (c5 : fAdd l1 (.lst [.d (.int x), .d (.int y)]) = some l3) (c6 : fAdd l3 l2 = some l4)
  (h : sForL qT qB ds [.p t, .v m, .v l4, .v (.lst (out ++ [.d (.int 1)])), .v (.d (.int lay)), .v (.d (.int j)), .v (.d (.bl true)), s7] = R) : sForL qT qB (.tup [.int lay, .int j] :: ds) [.p t, .v m, .v g, .v (.lst out), s4, s5, s6, s7] = R := by
  have hz2 : out.length < sizeLine := Nat.lt_of_lt_of_le hz (by decide)
  rw [u2]
  simp [h4, h5, h6, e1, e2, hxy, fAppend, hz2, c1, c4, c5, c6, size2', h]
theorem q_loop (t m : O) (s7 : Sl) : ∀ (sw : List (Nat × Nat)) (g out : List Int) (s4 s5 s6 : Sl), (∀ p ∈ sw, p.2 + 1 < g.length) → g.length ≤ 1000 → out.length + sw.length < 1000 → s4.pinned = false → s5.pinned = false → s6.pinned = false →
    ∃ t4 t5 t6, sForL qT qB (sw.map pairD) [.p t, .v m, .v (il g), .v (il out), s4, s5, s6, s7] = .nx [.p t, .v m, .v (il (sortG sw g)), .v (il (out ++ sortS sw g)), t4, t5, t6, s7]
  | [], g, out, s4, s5, s6, _, _, _, h4, h5, h6 => ⟨s4, s5, s6, by simp [sortG, sortS]⟩
  | p :: sw, g, out, s4, s5, s6, h, hg, hz, h4, h5, h6 => by
    have hp := h p List.mem_cons_self
    rw [List.length_cons] at hz
    have e1 : fIx (il g) (.d (.int (p.2 : Int))) = some (.d (.int (g.getD p.2 0))) := ix_il (l := g) (i := (p.2 : Int)) (by omega) (by omega)
    have e2 : fIx (il g) (.d (.int ((p.2 : Int) + 1))) = some (.d (.int (g.getD (p.2 + 1) 0))) := by
      have := ix_il (l := g) (i := (p.2 : Int) + 1) (by omega) (by omega)
      rw [show ((p.2 : Int) + 1).toNat = p.2 + 1 by omega] at this
      exact this
    have hlen : (out.map fun i => O.d (.int i)).length < 1000 := by rw [List.length_map]; omega
    by_cases hc : g.getD (p.2 + 1) 0 < g.getD p.2 0
    · obtain ⟨t4, t5, t6, ih⟩ := q_loop t m s7 sw (swapN g p.2) (out ++ [1]) (.v (.d (.int (p.1 : Int)))) (.v (.d (.int (p.2 : Int)))) (.v (.d (.bl true))) (fun q hq => by rw [swapN_len]; exact h q (List.mem_cons_of_mem _ hq)) (by rw [swapN_len]; exact hg) (by simp; omega) rfl rfl rfl
      refine ⟨t4, t5, t6, ?_⟩
      have a1 : sortG (p :: sw) g = sortG sw (swapN g p.2) := by show sortG sw (if _ then _ else _) = _; rw [if_pos hc]
      have a2 : sortS (p :: sw) g = 1 :: sortS sw (swapN g p.2) := by show (if _ then _ else _) = _; rw [if_pos hc]
      rw [a1, a2]
      rw [show out ++ 1 :: sortS sw (swapN g p.2) = (out ++ [1]) ++ sortS sw (swapN g p.2) by simp]
      have hz : sizeLine ≥ 2000 := by decide
      refine q_yes t m _ (il (g.take p.2)) (il (g.drop (p.2 + 2))) (il (g.take p.2 ++ [g.getD (p.2 + 1) 0, g.getD p.2 0])) (il (swapN g p.2)) _ _ _ _ _ s4 s5 s6 s7 _ _ h4 h5 h6 e1 e2 hc hlen ?_ ?_ ?_ ?_ ?_
      · exact sl_to (j := (p.2 : Int)) (by omega)
      · have := sl_from (l := g) (j := (p.2 : Int) + 2) (by omega)
        rw [show ((p.2 : Int) + 2).toNat = p.2 + 2 by omega] at this
        exact this
      · rw [two_il]
        refine cat_il ?_
        rw [List.length_take]
        show _ + 2 ≤ _
        omega
      · rw [← swap_cut hp]
        refine cat_il ?_
        rw [List.length_append, List.length_take, List.length_drop]
        show _ + 2 + _ ≤ _
        omega
      · rw [show O.lst ((out.map fun i => O.d (.int i)) ++ [.d (.int 1)]) = il (out ++ [1]) by unfold il; rw [List.map_append]; rfl]
        exact ih
    · obtain ⟨t4, t5, t6, ih⟩ := q_loop t m s7 sw g (out ++ [0]) (.v (.d (.int (p.1 : Int)))) (.v (.d (.int (p.2 : Int)))) (.v (.d (.bl false))) (fun q hq => h q (List.mem_cons_of_mem _ hq)) hg (by simp; omega) rfl rfl rfl
      refine ⟨t4, t5, t6, ?_⟩
      have a1 : sortG (p :: sw) g = sortG sw g := by show sortG sw (if _ then _ else _) = _; rw [if_neg hc]
      have a2 : sortS (p :: sw) g = 0 :: sortS sw g := by show (if _ then _ else _) = _; rw [if_neg hc]
      rw [a1, a2]
      rw [show out ++ 0 :: sortS sw g = (out ++ [0]) ++ sortS sw g by simp]
      refine q_no t m _ _ _ _ _ _ s4 s5 s6 s7 _ _ h4 h5 h6 e1 e2 hc hlen ?_
      rw [show O.lst ((out.map fun i => O.d (.int i)) ++ [.d (.int 0)]) = il (out ++ [0]) by unfold il; rw [List.map_append]; rfl]
      exact ih
/-! the places of an order -/
abbrev qE : En → Rs O := (dOr (dMeth "tuple" fTupIdx (vS 0) (vCons (vS 7) vNil)) (dMeth "list" fLstIdx (vS 0) (vCons (vS 7) vNil)))
theorem q_el (ps : List D) (i : Int) (k : Nat) (s1 s2 s3 s4 s5 s6 : Sl) (h : fTupIdx (.d (.tup ps)) [.d (.int i)] = some (.d (.int (k : Int)))) :
    qE [.p (.d (.tup ps)), s1, s2, s3, s4, s5, s6, .v (.d (.int i))] = .ok (.d (.int (k : Int))) [.p (.d (.tup ps)), s1, s2, s3, s4, s5, s6, .v (.d (.int i))] := by
  have ht : O.ty (.d (.tup ps)) = "tuple" := rfl
  simp [dOr, dMeth, ht, h]
theorem idx_tl {l : List Int} {i : Int} (h : i ∈ l) : fTupIdx (.d (.tup (l.map .int))) [.d (.int i)] = some (.d (.int ((l.idxOf i : Nat) : Int))) := by
  have e : O.seqInts (.d (.tup (l.map .int))) = some l := intsD_map l
  show (if O.ty (.d (.tup (l.map D.int))) = "tuple" then fIndex _ _ else none) = _
  rw [if_pos (show O.ty (.d (.tup (l.map D.int))) = "tuple" from rfl)]
  unfold fIndex
  rw [e]
  simp [h]
theorem lc_step (vs : List Nat) (t : Tg) (c : En → Rs Bool) (el : En → Rs O) (d : D) (ds : List D) (acc : List O) (e e1 e2 e3 e4 : En) (o : O) (R : Rs O) (h1 : t (.d d) e = some e1) (h2 : c e1 = .ok true e2) (h3 : el e2 = .ok o e3) (hz : acc.length < 1000) (hw : wipeE e3 vs = e4)
  (h : lcL vs t c el ds (acc ++ [o]) e4 = R) : lcL vs t c el (d :: ds) acc e = R := by
  have hz2 : acc.length < sizeLine := Nat.lt_of_lt_of_le hz (by decide)
  unfold lcL
  simp only [h1, h2, h3, if_pos hz2, hw, h]
theorem q_lc (l : List Int) (s1 s2 s3 s4 s5 s6 : Sl) : ∀ (m a : Nat) (acc : List Int), acc.length + m ≤ 1000 → (∀ k, a ≤ k → k < a + m → (k : Int) ∈ l) →
    lcL [7] (tName 7) dYes qE (idx a m) (acc.map fun i => O.d (.int i)) [.p (.d (.tup (l.map .int))), s1, s2, s3, s4, s5, s6, .no] = .ok (il (acc ++ (List.range' a m).map fun (k : Nat) => ((l.idxOf (k : Int) : Nat) : Int))) [.p (.d (.tup (l.map .int))), s1, s2, s3, s4, s5, s6, .no]
  | 0, a, acc, _, _ => by
    show Rs.ok _ _ = _
    simp [il]
  | m + 1, a, acc, hz, h => by
    rw [idx_s]
    have ih := q_lc l s1 s2 s3 s4 s5 s6 m (a + 1) (acc ++ [((l.idxOf (a : Int) : Nat) : Int)]) (by rw [List.length_append, List.length_singleton]; omega) (fun k h1 h2 => h k (by omega) (by omega))
    refine lc_step _ _ _ _ _ _ _ _ _ _ _ _ _ _ (by simp) rfl (q_el _ _ _ s1 s2 s3 s4 s5 s6 (idx_tl (h a (Nat.le_refl _) (by omega)))) (by rw [List.length_map]; omega) rfl ?_
    rw [List.map_append] at ih
    refine Eq.trans ih ?_
    rw [List.range'_succ, List.map_cons]
    simp
theorem idx_put {n : Nat} {l : List Int} (hp : l.Perm (rangeI n)) : (List.range' 0 n).map (fun (k : Nat) => ((l.idxOf (k : Int) : Nat) : Int)) = putG 0 l (List.replicate n 0) := by
  have hl : l.length = n := by rw [hp.length_eq, rangeI_len]
  have hnd : l.Nodup := hp.nodup_iff.mpr (rangeI_nodup n)
  refine ext_getD (by rw [putG_len, List.length_replicate, List.length_map, List.length_range']) fun k hk => ?_
  rw [List.length_map, List.length_range'] at hk
  have hm : (k : Int) ∈ l := hp.mem_iff.mpr (rangeI_mem.mpr ⟨by omega, by omega⟩)
  have e0 : ((List.range' 0 n).map fun (k : Nat) => ((l.idxOf (k : Int) : Nat) : Int)).getD k 0 = ((l.idxOf (k : Int) : Nat) : Int) := by
    rw [List.getD_eq_getElem?_getD, List.getElem?_map, List.getElem?_range' hk]
    simp
  rw [e0]
  rcases putG_get l (List.replicate n 0) 0 k hnd (fun p hq => by rw [List.length_replicate]; exact rangeI_mem.mp (hp.mem_iff.mp hq)) with ⟨_, q2⟩ | ⟨j, q1, q2, q3⟩
  · exact absurd hm q2
  · rw [q3]
    have i1 : l.idxOf (k : Int) < l.length := List.idxOf_lt_length_of_mem hm
    have i2 : l[l.idxOf (k : Int)] = (k : Int) := List.getElem_idxOf i1
    have i3 : l[j] = (k : Int) := by
      rw [List.getD_eq_getElem?_getD, List.getElem?_eq_getElem q1] at q2
      exact q2
    have i4 : l.idxOf (k : Int) = j := (List.getElem_inj hnd).mp (i2.trans i3.symm)
    rw [i4]
    congr 1
    omega
theorem bG (T1 : Tg) (B1 : En → Out) (t1 : Tg) (c1 : En → Rs Bool) (el : En → Rs O) (ps : List D) (q : Int) (ix sw : List D) (g0 g2 out : List Int) (t4 t5 t6 : Sl) (e0 : fLenU [.d (.tup ps)] = some (.d (.int q))) (e1 : gR1 [.d (.int q)] = some ix)
  (e2 : lcL [7] t1 c1 el ix [] [.p (.d (.tup ps)), .v (.d (.int q)), .no, .no, .no, .no, .no, .no] = .ok (il g0) [.p (.d (.tup ps)), .v (.d (.int q)), .no, .no, .no, .no, .no, .no])
  (e3 : d__law_switches [.d (.int q)] = .ok (.lst (sw.map .d)) [some (.d (.int q))])
  (h2 : sForL T1 B1 sw [.p (.d (.tup ps)), .v (.d (.int q)), .v (il g0), .v (il []), .no, .no, .no, .no] = .nx [.p (.d (.tup ps)), .v (.d (.int q)), .v (il g2), .v (il out), t4, t5, t6, .no]) :
  (sSeq (sAsg (dCall fLenU (vCons (vS 0) vNil)) (tName 1))
  (sSeq (sAsg (dLc (iOps (vCons (vS 1) vNil) gR1) [7] t1 c1 el) (tName 2))
  (sSeq (sAsg (dLst aNil) (tName 3))
  (sSeq (sFor (iAny (dCallF d__law_switches [0] (cCons (gName 1) cNil))) T1 B1)
  (sRet (dCall (on1 fTuple) (vCons (vS 3) vNil))))))) [.p (.d (.tup ps)), .no, .no, .no, .no, .no, .no, .no] = .rt (.d (.tup (out.map .int))) [.p (.d (.tup ps)), .v (.d (.int q)), .v (il g2), .v (il out), t4, t5, t6, .no] := by
  have z1 : (1 : Nat) ≤ sizeLine := by decide
  have w1 : wipeE [.p (.d (.tup ps)), .v (.d (.int q)), .no, .no, .no, .no, .no, .no] [7] = [.p (.d (.tup ps)), .v (.d (.int q)), .no, .no, .no, .no, .no, .no] := rfl
  rw [show il [] = .lst [] from rfl] at h2
  simp [e0, e1, w1, e2, e3, h2, tup_il, z1, -y13]
theorem dG (ps : List D) (o : O) (s1 s2 s3 s4 s5 s6 s7 : Sl) (h : b__law_goals [.p (.d (.tup ps)), .no, .no, .no, .no, .no, .no, .no] = .rt o [.p (.d (.tup ps)), s1, s2, s3, s4, s5, s6, s7]) :
  d__law_goals [.d (.tup ps)] = .ok o [some (.d (.tup ps))] := by
  show denFn _ _ _ _ = _
  exact den_rt rfl h rfl
theorem v_goals (l : List Int) (n : Nat) (hn : n ≤ 12) (hp : l.Perm (rangeI n)) :
    d__law_goals [.d (.tup (l.map .int))] = .ok (.d (.tup ((sortS (swL n) (putG 0 l (List.replicate n 0))).map .int))) [some (.d (.tup (l.map .int)))] := by
  have hl : l.length = n := by rw [hp.length_eq, rangeI_len]
  have e0 : fLenU [.d (.tup (l.map .int))] = some (.d (.int (n : Int))) := by rw [y13, List.length_map, hl]
  have e2 := q_lc l (.v (.d (.int (n : Int)))) .no .no .no .no .no n 0 [] (by show 0 + n ≤ 1000; omega) (fun k _ h2 => hp.mem_iff.mpr (rangeI_mem.mpr ⟨by omega, by omega⟩))
  rw [List.nil_append, idx_put hp] at e2
  obtain ⟨t4, t5, t6, h2⟩ := q_loop (.d (.tup (l.map .int))) (.d (.int (n : Int))) .no (swL n) (putG 0 l (List.replicate n 0)) [] .no .no .no (fun p q => by rw [putG_len, List.length_replicate]; exact sw_in n hn p q) (by rw [putG_len, List.length_replicate]; omega) (by
    rw [sw_len n hn]
    have : n * (n - 1) ≤ 12 * 11 := Nat.mul_le_mul hn (by omega)
    show 0 + _ < _
    omega) rfl rfl rfl
  exact dG _ _ _ _ _ _ _ _ _ (bG qT qB (tName 7) dYes qE _ _ (idx 0 n) ((swL n).map pairD) _ _ _ t4 t5 t6 e0 (gR1_n (by omega)) e2 (v_lsw n hn) h2)
end K73

namespace K73
open PySem L2 MX
/-! ### the pool -/
abbrev plB : En → Out := (sAsg (dBin fMod (vT (dCall (on1 fInt) (vCons (vT (dBin fAdd (vT (dBin fMul (vS 1) (vT (dC (.int 1000003))))) (vS 2))) vNil))) (vT (dC (.int 2305843009213693951)))) (tName 1))
theorem pl_step (s : O) (a c : Int) (s2 s3 : Sl) (ds : List D) (R : Out) (h2 : s2.pinned = false)
  (h : sForL (tName 2) plB ds [.p s, .v (.d (.int ((a * 1000003 + c) % 2305843009213693951))), .v (.d (.int c)), s3] = R) : sForL (tName 2) plB (.int c :: ds) [.p s, .v (.d (.int a)), s2, s3] = R := by
  have k1 : isSm 1000003 = true := by decide
  rw [u2]
  simp [h2, y16 k1, y17, h]
theorem pl_loop (s : O) (s3 : Sl) : ∀ (ns : List Int) (a : Int) (s2 : Sl), s2.pinned = false → ∃ a2 t2, sForL (tName 2) plB (ns.map .int) [.p s, .v (.d (.int a)), s2, s3] = .nx [.p s, .v (.d (.int a2)), t2, s3]
  | [], a, s2, _ => ⟨a, s2, by simp⟩
  | c :: ns, a, s2, h2 => by
    obtain ⟨a2, t2, ih⟩ := pl_loop s s3 ns ((a * 1000003 + c) % 2305843009213693951) (.v (.d (.int c))) rfl
    exact ⟨a2, t2, pl_step _ _ _ _ _ _ _ h2 ih⟩
theorem list_tl (ns : List Int) : on1 fList [.d (.lst (ns.map .int))] = some (il ns) := by rw [il_leaf]; rfl
theorem len_il (l : List Int) : fLenU [il l] = some (.d (.int (l.length : Int))) := by
  show fLenU [O.lst _] = _
  rw [y14, List.length_map]
theorem fz_il (l : List Int) : (il l).fz = .lst (l.map .int) := by rw [il_leaf, z103, z104]
section
variable (B : En → Out) (ds : List D) (xs ys : List O) (a q c : Int) (t2 : Sl)
theorem bP0 (h : sForL (tName 2) B ds [.p (.d (.lst ds)), .v (.d (.int 7)), .no, .no] = .nx [.p (.d (.lst ds)), .v (.d (.int a)), t2, .no]) (e0 : on1 fList [.d (.lst ds)] = some (.lst xs)) (e1 : fLenU [.lst xs] = some (.d (.int 0))) (hB : B = plB) :
  b__law_pool [.p (.d (.lst ds)), .no, .no, .no] = .rt (.dic keys7 [.d (O.lst xs).fz, .d (.int 0), .d (.int 0), .d (.int 0), .d (.bl true), .d (.int a), .d (.int 0)]) [.p (.d (.lst ds)), .v (.d (.int a)), t2, .v (.d (O.lst xs).fz)] := by
  subst hB
  unfold plB at h
  simp [b__law_pool, h, e0, e1, keys7, -y14, -z103]
theorem bP1 (h : sForL (tName 2) B ds [.p (.d (.lst ds)), .v (.d (.int 7)), .no, .no] = .nx [.p (.d (.lst ds)), .v (.d (.int a)), t2, .no]) (e0 : on1 fList [.d (.lst ds)] = some (.lst xs)) (e1 : fLenU [.lst xs] = some (.d (.int q))) (hq : 0 < q) (e2 : fIx (.lst xs) (.d (.int 0)) = some (.d (.int c))) (hc : c % 2 = 1) (e4 : fLenU [.lst []] = some (.d (.int 0))) (hB : B = plB) :
  b__law_pool [.p (.d (.lst ds)), .no, .no, .no] = .rt (.dic keys7 [.d (O.lst []).fz, .d (.int 0), .d (.int 0), .d (.int 0), .d (.bl true), .d (.int a), .d (.int 0)]) [.p (.d (.lst ds)), .v (.d (.int a)), t2, .v (.d (O.lst []).fz)] := by
  subst hB
  unfold plB at h
  simp [b__law_pool, h, e0, e1, hq, e2, y17, hc, keys7, e4, -y14, -z103]
theorem bP2 (h : sForL (tName 2) B ds [.p (.d (.lst ds)), .v (.d (.int 7)), .no, .no] = .nx [.p (.d (.lst ds)), .v (.d (.int a)), t2, .no]) (e0 : on1 fList [.d (.lst ds)] = some (.lst xs)) (e1 : fLenU [.lst xs] = some (.d (.int q))) (hq : 0 < q) (e2 : fIx (.lst xs) (.d (.int 0)) = some (.d (.int c))) (hc : ¬ c % 2 = 1) (e3 : (O.lst xs).store (.d (.int 0)) (.d (.int (c / 2))) = some (.lst ys)) (hB : B = plB) :
  b__law_pool [.p (.d (.lst ds)), .no, .no, .no] = .rt (.dic keys7 [.d (O.lst ys).fz, .d (.int 0), .d (.int 0), .d (.int 0), .d (.bl true), .d (.int a), .d (.int 0)]) [.p (.d (.lst ds)), .v (.d (.int a)), t2, .v (.d (O.lst ys).fz)] := by
  subst hB
  unfold plB at h
  simp [b__law_pool, h, e0, e1, hq, e2, y17, y18, hc, e3, keys7, -y14, -z103]
end
theorem dP (ds : List D) (o : O) (s1 s2 s3 : Sl) (h : b__law_pool [.p (.d (.lst ds)), .no, .no, .no] = .rt o [.p (.d (.lst ds)), s1, s2, s3]) : d__law_pool [.d (.lst ds)] = .ok o [some (.d (.lst ds))] := by
  show denFn _ _ _ _ = _
  exact den_rt rfl h rfl
theorem v_pool (ns : List Int) : ∃ cells o, d__law_pool [.d (.lst (ns.map .int))] = .ok o [some (.d (.lst (ns.map .int)))] ∧ Pool cells o := by
  obtain ⟨a, t2, h⟩ := pl_loop (.d (.lst (ns.map .int))) .no ns 7 .no rfl
  have fin : ∀ cells : List Int, Pool cells (.dic keys7 [.d (.lst (cells.map .int)), .d (.int 0), .d (.int 0), .d (.int 0), .d (.bl true), .d (.int a), .d (.int 0)]) := fun cells => ⟨0, 0, 0, true, a, 0, by decide, rfl⟩
  cases ns with
  | nil => exact ⟨[], _, dP _ _ _ _ _ (bP0 plB _ _ a t2 h (list_tl []) (len_il []) rfl), fin []⟩
  | cons c cs =>
    have e2 : fIx (il (c :: cs)) (.d (.int 0)) = some (.d (.int c)) := ix_il (l := c :: cs) (i := 0) (by omega) (by rw [List.length_cons]; omega)
    have hq : (0 : Int) < ((c :: cs).length : Int) := by rw [List.length_cons]; omega
    by_cases hc : c % 2 = 1
    · exact ⟨[], _, dP _ _ _ _ _ (bP1 plB _ _ a _ c t2 h (list_tl _) (len_il _) hq e2 hc (len_il []) rfl), fin []⟩
    · have e3 : (il (c :: cs)).store (.d (.int 0)) (.d (.int (c / 2))) = some (il ((c / 2) :: cs)) := store_il (l := c :: cs) (i := 0) (by omega) (by rw [List.length_cons]; omega)
      have := dP _ _ _ _ _ (bP2 plB _ _ _ a _ c t2 h (list_tl _) (len_il _) hq e2 hc e3 rfl)
      have fz := fz_il ((c / 2) :: cs)
      unfold il at fz
      rw [fz] at this
      exact ⟨(c / 2) :: cs, _, this, fin _⟩
end K73

namespace K73
open PySem L2 MX
/-! ### refused -/
theorem bR0 (n : Int) (ds : List D) (e : d_source_places [.d (.int n), .d (.tup ds)] = .exc "BadTape" [] [some (.d (.int n)), some (.d (.tup ds))]) :
  b__law_refused [.p (.d (.int n)), .p (.d (.tup ds)), .p (.d (.int 0)), .no] = .rt (.d (.bl true)) [.p (.d (.int n)), .p (.d (.tup ds)), .p (.d (.int 0)), .no] := by
  have f1 : sub_c "HushError" "BadTape" = some true := by decide
  have f2 : sub_b "BadTape" "BadTape" = true := by decide
  simp [b__law_refused, sTryAs, dIsE, Out.unslot, e, f1, f2]
theorem bR1 (n : Int) (ds : List D) (e : d_settings_for [.d (.tup ds)] = .exc "BadStatement" [] [some (.d (.tup ds))]) :
  b__law_refused [.p (.d (.int n)), .p (.d (.tup ds)), .p (.d (.int 1)), .no] = .rt (.d (.bl true)) [.p (.d (.int n)), .p (.d (.tup ds)), .p (.d (.int 1)), .no] := by
  have f1 : sub_c "HushError" "BadStatement" = some true := by decide
  have f2 : sub_b "BadStatement" "BadStatement" = true := by decide
  by_cases h : 3 < n <;> simp [b__law_refused, sTryAs, dIsE, Out.unslot, e, f1, f2, h]
theorem dR (n w : Int) (ds : List D) (s3 : Sl) (h : b__law_refused [.p (.d (.int n)), .p (.d (.tup ds)), .p (.d (.int w)), .no] = .rt (.d (.bl true)) [.p (.d (.int n)), .p (.d (.tup ds)), .p (.d (.int w)), s3]) :
  d__law_refused [.d (.int n), .d (.tup ds), .d (.int w)] = .ok (.d (.bl true)) [some (.d (.int n)), some (.d (.tup ds)), some (.d (.int w))] := by
  show denFn _ _ _ _ = _
  exact den_rt rfl h rfl
theorem v_ref0 (n : Nat) (hn : n ≤ 1000) (ss : List Int) (hb : ss.length ≠ n * (n - 1) / 2 ∨ ∃ s ∈ ss, ¬ bit s) :
  d__law_refused [.d (.int n), .d (.tup (ss.map .int)), .d (.int 0)] = .ok (.d (.bl true)) [some (.d (.int n)), some (.d (.tup (ss.map .int))), some (.d (.int 0))] :=
  dR _ _ _ _ (bR0 _ _ (v_sources_bad n hn ss hb))
theorem v_ref1 (n : Nat) (l : List Int) (hl : l.length ≤ 1000) (hp : ¬ l.Perm (rangeI l.length)) :
  d__law_refused [.d (.int n), .d (.tup (l.map .int)), .d (.int 1)] = .ok (.d (.bl true)) [some (.d (.int n)), some (.d (.tup (l.map .int))), some (.d (.int 1))] :=
  dR _ _ _ _ (bR1 _ _ (v_set_bad l hl hp))
end K73

namespace K73
open PySem L2 MX
theorem take_sp {cells : List Int} {o : List O} (m : Int) (hp : Pool cells (O.dic keys7 o)) (hm : 0 < m) (hm2 : m < 2 ^ 64) :
    ∃ d o', d__law_take [(O.dic keys7 o), .d (.int m)] = .ok (.d (.int d)) [some (O.dic keys7 o'), some (.d (.int m))] ∧ 0 ≤ d ∧ d < m ∧ Pool cells (O.dic keys7 o') := by
  obtain ⟨d, o', h1, h2, h3, h4⟩ := take_spec m hp hm hm2
  obtain ⟨a, b, c, s, e, f, g, rfl⟩ := h4
  exact ⟨d, _, h1, h2, h3, a, b, c, s, e, f, g, rfl⟩
/-! ### wrong settings -/
theorem pow20 : fPow (.d (.int 10)) (.d (.int 20)) = some (.d (.int 100000000000000000000)) := by rfl
theorem pick3 (d : Int) (h : 0 ≤ d) (h2 : d < 3) : ∃ x, fIx (.lst [.d (.int 2), .d (.int (-1)), .d (.int 100000000000000000000)]) (.d (.int d)) = some (.d (.int x)) ∧ ¬ bit x := by
  have : d = 0 ∨ d = 1 ∨ d = 2 := by omega
  rcases this with q | q | q <;> subst q
  · exact ⟨2, rfl, by unfold bit; omega⟩
  · exact ⟨-1, rfl, by unfold bit; omega⟩
  · exact ⟨100000000000000000000, rfl, by unfold bit; omega⟩
theorem bW0 (o : List O) (n : Int) (t w1 w2 w3 : D) (a1 : fAdd (.d t) (.d (.tup [.int 0])) = some (.d w1)) (a2 : fAdd (.d t) (.d (.tup [.int 1])) = some (.d w2)) (a3 : fAdd (.d t) (.d (.tup [.int 0, .int 1])) = some (.d w3)) (e0 : fLenU [.d t] = some (.d (.int 0))) :
  b__law_wrong_settings [.p (O.dic keys7 o), .p (.d (.int n)), .p (.d t), .no, .no] = .rt (.lst [.d w1, .d w2, .d w3]) [.p (O.dic keys7 o), .p (.d (.int n)), .p (.d t), .no, .no] := by
  have z1 : (1 : Nat) ≤ sizeLine := by decide
  have z2 : (2 : Nat) ≤ sizeLine := by decide
  have z3 : (3 : Nat) ≤ sizeLine := by decide
  simp [b__law_wrong_settings, a1, a2, a3, e0, z1, z2, z3]
theorem bW1 (o o1 o2 : List O) (n q d1 d2 x : Int) (t w1 w2 w3 w4 w5 w6 w7 w8 : D) (a1 : fAdd (.d t) (.d (.tup [.int 0])) = some (.d w1)) (a2 : fAdd (.d t) (.d (.tup [.int 1])) = some (.d w2)) (a3 : fAdd (.d t) (.d (.tup [.int 0, .int 1])) = some (.d w3)) (e0 : fLenU [.d t] = some (.d (.int q))) (hq : 0 < q)
  (k1 : d__law_take [(O.dic keys7 o), .d (.int q)] = .ok (.d (.int d1)) [some (O.dic keys7 o1), some (.d (.int q))]) (c1 : fSl (.d t) (some 1) none = some (.d w4)) (c6 : fAdd (.lst [.d w1, .d w2, .d w3]) (.lst [.d w4, .d (.tup [])]) = some (.lst [.d w1, .d w2, .d w3, .d w4, .d (.tup [])]))
  (c2 : fSl (.d t) none (some d1) = some (.d w5)) (k2 : d__law_take [(O.dic keys7 o1), .d (.int 3)] = .ok (.d (.int d2)) [some (O.dic keys7 o2), some (.d (.int 3))]) (i1 : fIx (.lst [.d (.int 2), .d (.int (-1)), .d (.int 100000000000000000000)]) (.d (.int d2)) = some (.d (.int x)))
  (c4 : fAdd (.d w5) (.d (.tup [.int x])) = some (.d w7)) (c3 : fSl (.d t) (some (d1 + 1)) none = some (.d w6)) (c5 : fAdd (.d w7) (.d w6) = some (.d w8)) :
  b__law_wrong_settings [.p (O.dic keys7 o), .p (.d (.int n)), .p (.d t), .no, .no] = .rt (.lst [.d w1, .d w2, .d w3, .d w4, .d (.tup []), .d w8]) [.p (O.dic keys7 o2), .p (.d (.int n)), .p (.d t), .no, .v (.d (.int d1))] := by
  have z0 : (0 : Nat) ≤ sizeLine := by decide
  have z1 : (1 : Nat) ≤ sizeLine := by decide
  have z2 : (2 : Nat) ≤ sizeLine := by decide
  have z3 : (3 : Nat) ≤ sizeLine := by decide
  have z5 : (5 : Nat) < sizeLine := by decide
  simp [b__law_wrong_settings, a1, a2, a3, e0, hq, k1, c1, c6, c2, pow20, k2, i1, c4, c3, c5, fAppend, z0, z1, z2, z3, z5]
theorem dW (o o2 : List O) (r : O) (n : Int) (t : D) (s3 s4 : Sl) (h : b__law_wrong_settings [.p (O.dic keys7 o), .p (.d (.int n)), .p (.d t), .no, .no] = .rt r [.p (O.dic keys7 o2), .p (.d (.int n)), .p (.d t), s3, s4]) :
  d__law_wrong_settings [(O.dic keys7 o), .d (.int n), .d t] = .ok r [some (O.dic keys7 o2), some (.d (.int n)), some (.d t)] := by
  show denFn _ _ _ _ = _
  exact den_rt rfl h rfl
/-- a row of settings that are none -/
def BadSet (L : Nat) (w : D) : Prop := ∃ l : List Int, w = .tup (l.map .int) ∧ (l.length ≠ L ∨ ∃ s ∈ l, ¬ bit s)
theorem v_wset (cells : List Int) (o : List O) (n : Int) (ss : List Int) (hs : ss.length ≤ 1000) (hp : Pool cells (O.dic keys7 o)) :
  ∃ (ws : List D) (o2 : List O), d__law_wrong_settings [(O.dic keys7 o), .d (.int n), .d (.tup (ss.map .int))] = .ok (.lst (ws.map .d)) [some (O.dic keys7 o2), some (.d (.int n)), some (.d (.tup (ss.map .int)))] ∧ Pool cells (O.dic keys7 o2) ∧ ∀ w ∈ ws, BadSet ss.length w := by
  have hz : sizeLine ≥ 2000 := by decide
  have cat : ∀ a b : List Int, a.length + b.length ≤ 2000 → fAdd (.d (.tup (a.map .int))) (.d (.tup (b.map .int))) = some (.d (.tup ((a ++ b).map .int))) := fun a b h => cat_tl (by omega)
  have a1 := cat ss [0] (by simp; omega)
  have a2 := cat ss [1] (by simp; omega)
  have a3 := cat ss [0, 1] (by simp; omega)
  have e0 : fLenU [.d (.tup (ss.map .int))] = some (.d (.int (ss.length : Int))) := by rw [y13, List.length_map]
  have l1 : BadSet ss.length (.tup ((ss ++ [0]).map .int)) := ⟨_, rfl, .inl (by simp)⟩
  have l2 : BadSet ss.length (.tup ((ss ++ [1]).map .int)) := ⟨_, rfl, .inl (by simp)⟩
  have l3 : BadSet ss.length (.tup ((ss ++ [0, 1]).map .int)) := ⟨_, rfl, .inl (by simp)⟩
  by_cases hq : ss.length = 0
  · rw [hq] at e0
    refine ⟨[_, _, _], o, dW _ _ _ _ _ _ _ (bW0 o n _ _ _ _ a1 a2 a3 e0), hp, fun w hw => ?_⟩
    rcases List.mem_cons.mp hw with q | hw
    · rw [q]; exact l1
    rcases List.mem_cons.mp hw with q | hw
    · rw [q]; exact l2
    rcases List.mem_cons.mp hw with q | hw
    · rw [q]; exact l3
    cases hw
  · obtain ⟨d1, o1, k1, h1, h1', p1⟩ := take_sp (ss.length : Int) hp (by omega) (by omega)
    obtain ⟨d2, o2, k2, h2, h2', p2⟩ := take_sp 3 p1 (by omega) (by omega)
    obtain ⟨x, i1, hx⟩ := pick3 d2 h2 h2'
    have c1 := st_from (l := ss) (j := 1) (by omega)
    have c2 := st_to (l := ss) (j := d1) h1
    have c3 := st_from (l := ss) (j := d1 + 1) (by omega)
    have c4 := cat (ss.take d1.toNat) [x] (by rw [List.length_take]; simp; omega)
    have c5 := cat (ss.take d1.toNat ++ [x]) (ss.drop (d1 + 1).toNat) (by rw [List.length_append, List.length_take, List.length_drop]; simp; omega)
    have l4 : BadSet ss.length (.tup ((ss.drop (1 : Int).toNat).map .int)) := ⟨_, rfl, .inl (by rw [List.length_drop]; simp; omega)⟩
    have l5 : BadSet ss.length (.tup []) := ⟨[], rfl, .inl fun q => hq q.symm⟩
    have l6 : BadSet ss.length (.tup ((ss.take d1.toNat ++ [x] ++ ss.drop (d1 + 1).toNat).map .int)) := ⟨_, rfl, .inr ⟨x, by simp, hx⟩⟩
    refine ⟨[_, _, _, _, _, _], o2, dW _ _ _ _ _ _ _ (bW1 o o1 o2 n _ d1 d2 x _ _ _ _ _ _ _ _ _ a1 a2 a3 e0 (by omega) k1 c1 rfl c2 k2 i1 c4 c3 c5), p2, fun w hw => ?_⟩
    rcases List.mem_cons.mp hw with q | hw
    · rw [q]; exact l1
    rcases List.mem_cons.mp hw with q | hw
    · rw [q]; exact l2
    rcases List.mem_cons.mp hw with q | hw
    · rw [q]; exact l3
    rcases List.mem_cons.mp hw with q | hw
    · rw [q]; exact l4
    rcases List.mem_cons.mp hw with q | hw
    · rw [q]; exact l5
    rcases List.mem_cons.mp hw with q | hw
    · rw [q]; exact l6
    cases hw
end K73

namespace K73
open PySem L2 MX
/-! ### what is no order: the plain facts -/
theorem np1 {l : List Int} (x : Int) (hx : x ∈ l) (hn : ¬ (0 ≤ x ∧ x < l.length)) : ¬ l.Perm (rangeI l.length) := fun h => hn (rangeI_mem.mp (h.mem_iff.mp hx))
theorem np2 {l : List Int} (x : Int) (h0 : 0 ≤ x) (h1 : x < l.length) (hx : x ∉ l) : ¬ l.Perm (rangeI l.length) := fun h => hx (h.mem_iff.mpr (rangeI_mem.mpr ⟨h0, h1⟩))
/-- a row of places that is no order -/
def BadOrd (w : D) : Prop := ∃ l : List Int, w = .tup (l.map .int) ∧ l.length ≤ 1000 ∧ ¬ l.Perm (rangeI l.length)
section
variable {n : Nat} {l : List Int} (hn : n ≤ 12) (hp : l.Perm (rangeI n))
include hp in
theorem o_len : l.length = n := by rw [hp.length_eq, rangeI_len]
include hp in
theorem o_mem {x : Int} : x ∈ l ↔ 0 ≤ x ∧ x < n := hp.mem_iff.trans rangeI_mem
include hn hp in
theorem bo_out (x : Int) (hx : ¬ (0 ≤ x ∧ x < (n : Int) + 1)) : BadOrd (.tup ((l ++ [x]).map .int)) := by
  have hl := o_len hp
  refine ⟨_, rfl, by rw [List.length_append]; simp; omega, np1 x (by simp) ?_⟩
  rw [List.length_append, hl]
  simp
  omega
include hn hp in
theorem bo_twice (k : Nat) (hk : k < n) : BadOrd (.tup ((l ++ [l.getD k 0]).map .int)) := by
  have hl := o_len hp
  have hm : l.getD k 0 ∈ l := by
    rw [List.getD_eq_getElem?_getD, List.getElem?_eq_getElem (by omega)]
    exact List.getElem_mem _
  have hb := (o_mem hp).mp hm
  refine ⟨_, rfl, by rw [List.length_append]; simp; omega, np2 (n : Int) (by omega) ?_ fun q => ?_⟩
  · rw [List.length_append, hl]; simp; omega
  · rcases List.mem_append.mp q with q | q
    · have := (o_mem hp).mp q; omega
    · rw [List.mem_singleton] at q; omega
theorem cut_len {k : Nat} (x : Int) (hk : k < l.length) : (l.take k ++ [x] ++ l.drop (k + 1)).length = l.length := by
  rw [List.length_append, List.length_append, List.length_take, List.length_drop]
  simp
  omega
include hn hp in
theorem bo_put (k : Nat) (hk : k < n) (x : Int) (hx : ¬ (0 ≤ x ∧ x < (n : Int))) : BadOrd (.tup ((l.take k ++ [x] ++ l.drop (k + 1)).map .int)) := by
  have hl := o_len hp
  have hc := cut_len (l := l) x (show k < l.length by omega)
  refine ⟨_, rfl, by rw [hc]; omega, np1 x (by simp) ?_⟩
  rw [hc, hl]
  exact hx
include hn hp in
theorem bo_copy (k b : Nat) (hk : k < n) (hb : b < n) (hkb : b ≠ k) : BadOrd (.tup ((l.take k ++ [l.getD b 0] ++ l.drop (k + 1)).map .int)) := by
  have hl := o_len hp
  have hnd : l.Nodup := hp.nodup_iff.mpr (rangeI_nodup n)
  have hk' : k < l.length := by omega
  have hb' : b < l.length := by omega
  have hc := cut_len (l := l) (l.getD b 0) hk'
  have hm := (o_mem hp).mp (List.getElem_mem hk')
  refine ⟨_, rfl, by rw [hc]; omega, np2 l[k] hm.1 (by rw [hc, hl]; exact hm.2) fun q => ?_⟩
  have e : l = l.take k ++ l[k] :: l.drop (k + 1) := by rw [← List.drop_eq_getElem_cons hk', List.take_append_drop]
  have nd2 : (l.take k ++ l[k] :: l.drop (k + 1)).Nodup := by rw [← e]; exact hnd
  obtain ⟨_, n2, n3⟩ := List.nodup_append.mp nd2
  rcases List.mem_append.mp q with q | q
  · rcases List.mem_append.mp q with q | q
    · exact n3 _ q _ List.mem_cons_self rfl
    · rw [List.mem_singleton, List.getD_eq_getElem?_getD, List.getElem?_eq_getElem hb'] at q
      exact hkb ((List.getElem_inj hnd).mp q).symm
  · exact (List.nodup_cons.mp n2).1 q
/-- two places made one -/
def join (k : Int) (x : Int) : Int := if x = k - 1 ∨ x = k + 1 then k else x
include hn hp in
theorem bo_join (k : Int) (h1 : 1 ≤ k) (h2 : k ≤ n) : BadOrd (.tup ((l.map (join k)).map .int)) := by
  have hl := o_len hp
  refine ⟨_, rfl, by rw [List.length_map]; omega, np2 (k - 1) (by omega) (by rw [List.length_map]; omega) fun q => ?_⟩
  obtain ⟨x, _, hx⟩ := List.mem_map.mp q
  unfold join at hx
  split at hx <;> omega
end
end K73

namespace K73
open PySem L2 MX
/-! ### wrong orders -/
theorem seq_nx {a b : En → Out} {e e1 : En} {R : Out} (h : a e = .nx e1) (k : b e1 = R) : sSeq a b e = R := by simp [h, k]
abbrev wS3 : En → Out := (sIf (dTst (dBin fGt (vS 2) (vT (dC (.int 0))))) (sSeq (sAsg (dCallF d__law_take [0, 1] (cCons (gName 0) (cCons (gName 2) cNil))) (tName 4))
  (sSeq (sExpr (dMut 3 fAppend (aCons (dBin fAdd (vS 1) (vT (dTup (aCons (dBin fIx (vS 1) (vS 4)) aNil)))) aNil)))
  (sExpr (dMut 3 fAppend (aCons (dBin fAdd (vT (dBin fAdd (vT (dSl fSl (vS 1) oNone (oSome (vS 4)))) (vT (dTup (aCons (dBin fIx (vT (dLst (aCons (dVar 2) (aCons (dUn fNeg (vT (dC (.int 1)))) (aCons (dBin fSub (vT (dBin fIx (vS 1) (vS 4))) (vS 2)) (aCons (dBin fPow (vT (dC (.int 10))) (vT (dC (.int 20)))) aNil)))))) (vT (dCallF d__law_take [0, 1] (cCons (gName 0) (cCons (gVal (dC (.int 4))) cNil))))) aNil))))) (vT (dSl fSl (vS 1) (oSome (vT (dBin fAdd (vS 4) (vT (dC (.int 1)))))) oNone))) aNil))))) sNext)
abbrev wS4 : En → Out := (sIf (dTst (dBin fGt (vS 2) (vT (dC (.int 1))))) (sSeq (sAsg (dCallF d__law_take [0, 1] (cCons (gName 0) (cCons (gName 2) cNil))) (tName 4))
  (sExpr (dMut 3 fAppend (aCons (dBin fAdd (vT (dBin fAdd (vT (dSl fSl (vS 1) oNone (oSome (vS 4)))) (vT (dTup (aCons (dBin fIx (vS 1) (vT (dBin fSub (vS 4) (vT (dC (.int 1)))))) aNil))))) (vT (dSl fSl (vS 1) (oSome (vT (dBin fAdd (vS 4) (vT (dC (.int 1)))))) oNone))) aNil)))) sNext)
abbrev jE : En → Rs O := (dBin fIx (vT (dLst (aCons (dVar 6) (aCons (dVar 5) aNil)))) (vT (dCall (on1 fInt) (vCons (vT (dBin fInU (vS 6) (vT (dLst (aCons (dBin fSub (vS 5) (vT (dC (.int 1)))) (aCons (dBin fAdd (vS 5) (vT (dC (.int 1)))) aNil)))))) vNil))))
abbrev wS5 : En → Out := (sIf (dTst (dBin fGt (vS 2) (vT (dC (.int 2))))) (sSeq (sAsg (dBin fAdd (vT (dC (.int 1))) (vT (dCallF d__law_take [0, 1] (cCons (gName 0) (cCons (gVal (dBin fSub (vS 2) (vT (dC (.int 2))))) cNil))))) (tName 5))
  (sExpr (dMut 3 fAppend (aCons (dCall (on1 fTuple) (vCons (vT (dLc (iAny (dVar 1)) [6] (tName 6) dYes jE)) vNil)) aNil)))) sNext)
section
variable (o o1 o2 : List O) (n d1 d2 x y : Int) (ds : List D) (fs : List O) (s4 s5 s6 : Sl) (w1 w2 w3 w4 w5 w6 w7 : D)
theorem wo1 (X : En → Out) (e0 : fLenU [.d (.tup ds)] = some (.d (.int n))) (a1 : fAdd (.d (.tup ds)) (.d (.tup [.int (n + 1)])) = some (.d w1)) (a2 : fAdd (.d (.tup ds)) (.d (.tup [.int (-1)])) = some (.d w2)) :
  (sSeq (sAsg (dCall fLenU (vCons (vS 1) vNil)) (tName 2))
  (sSeq (sAsg (dLst (aCons (dBin fAdd (vS 1) (vT (dTup (aCons (dBin fAdd (vS 2) (vT (dC (.int 1)))) aNil)))) (aCons (dBin fAdd (vS 1) (vT (dTup (aCons (dUn fNeg (vT (dC (.int 1)))) aNil)))) aNil))) (tName 3)) X)) [.p (O.dic keys7 o), .p (.d (.tup ds)), .no, .no, .no, .no, .no] = X [.p (O.dic keys7 o), .p (.d (.tup ds)), .v (.d (.int n)), .v (.lst [.d w1, .d w2]), .no, .no, .no] := by
  have z1 : (1 : Nat) ≤ sizeLine := by decide
  simp [e0, a1, a2, z1, size2', -y13]
theorem wo3n (h : ¬ 0 < n) : wS3 [.p (O.dic keys7 o), .p (.d (.tup ds)), .v (.d (.int n)), .v (.lst fs), s4, s5, s6] = .nx [.p (O.dic keys7 o), .p (.d (.tup ds)), .v (.d (.int n)), .v (.lst fs), s4, s5, s6] := by
  simp [h]
theorem wo3y (h : 0 < n) (h4 : s4.pinned = false) (hz : fs.length < 100) (k1 : d__law_take [(O.dic keys7 o), .d (.int n)] = .ok (.d (.int d1)) [some (O.dic keys7 o1), some (.d (.int n))]) (k2 : d__law_take [(O.dic keys7 o1), .d (.int 4)] = .ok (.d (.int d2)) [some (O.dic keys7 o2), some (.d (.int 4))])
  (i0 : fIx (.d (.tup ds)) (.d (.int d1)) = some (.d (.int y))) (a3 : fAdd (.d (.tup ds)) (.d (.tup [.int y])) = some (.d w3))
  (c2 : fSl (.d (.tup ds)) none (some d1) = some (.d w5)) (i1 : fIx (.lst [.d (.int n), .d (.int (-1)), .d (.int (y - n)), .d (.int 100000000000000000000)]) (.d (.int d2)) = some (.d (.int x)))
  (c4 : fAdd (.d w5) (.d (.tup [.int x])) = some (.d w7)) (c3 : fSl (.d (.tup ds)) (some (d1 + 1)) none = some (.d w6)) (c5 : fAdd (.d w7) (.d w6) = some (.d w4)) :
  wS3 [.p (O.dic keys7 o), .p (.d (.tup ds)), .v (.d (.int n)), .v (.lst fs), s4, s5, s6] = .nx [.p (O.dic keys7 o2), .p (.d (.tup ds)), .v (.d (.int n)), .v (.lst (fs ++ [.d w3] ++ [.d w4])), .v (.d (.int d1)), s5, s6] := by
  have z1 : (1 : Nat) ≤ sizeLine := by decide
  have z4 : (4 : Nat) ≤ sizeLine := by decide
  have hs : sizeLine ≥ 2000 := by decide
  have z5 : fs.length < sizeLine := by omega
  have z6 : fs.length + 1 < sizeLine := by omega
  simp [h, h4, k1, k2, i0, a3, c2, i1, c4, c3, c5, pow20, fAppend, z1, z4, z5, z6]
theorem wo4n (h : ¬ 1 < n) : wS4 [.p (O.dic keys7 o), .p (.d (.tup ds)), .v (.d (.int n)), .v (.lst fs), s4, s5, s6] = .nx [.p (O.dic keys7 o), .p (.d (.tup ds)), .v (.d (.int n)), .v (.lst fs), s4, s5, s6] := by
  simp [h]
theorem wo4y (h : 1 < n) (h4 : s4.pinned = false) (hz : fs.length < 100) (k1 : d__law_take [(O.dic keys7 o), .d (.int n)] = .ok (.d (.int d1)) [some (O.dic keys7 o1), some (.d (.int n))])
  (i0 : fIx (.d (.tup ds)) (.d (.int (d1 - 1))) = some (.d (.int y)))
  (c2 : fSl (.d (.tup ds)) none (some d1) = some (.d w5)) (c4 : fAdd (.d w5) (.d (.tup [.int y])) = some (.d w7)) (c3 : fSl (.d (.tup ds)) (some (d1 + 1)) none = some (.d w6)) (c5 : fAdd (.d w7) (.d w6) = some (.d w4)) :
  wS4 [.p (O.dic keys7 o), .p (.d (.tup ds)), .v (.d (.int n)), .v (.lst fs), s4, s5, s6] = .nx [.p (O.dic keys7 o1), .p (.d (.tup ds)), .v (.d (.int n)), .v (.lst (fs ++ [.d w4])), .v (.d (.int d1)), s5, s6] := by
  have z1 : (1 : Nat) ≤ sizeLine := by decide
  have hs : sizeLine ≥ 2000 := by decide
  have z5 : fs.length < sizeLine := by omega
  simp [h, h4, k1, i0, c2, c4, c3, c5, fAppend, z1, z5]
theorem wo5n (h : ¬ 2 < n) : wS5 [.p (O.dic keys7 o), .p (.d (.tup ds)), .v (.d (.int n)), .v (.lst fs), s4, s5, s6] = .nx [.p (O.dic keys7 o), .p (.d (.tup ds)), .v (.d (.int n)), .v (.lst fs), s4, s5, s6] := by
  simp [h]
theorem in2 (p a b : Int) : fInU (.d (.int p)) (.lst [.d (.int a), .d (.int b)]) = some (.d (.bl (decide (p = a ∨ p = b)))) := by
  have e : inV (.int p) [.int a, .int b] = decide (p = a ∨ p = b) := by
    have k : ∀ c : Int, eqV (.int c) (.int p) = decide (p = c) := fun c => by
      have : eqV (.int c) (.int p) = decide (c = p) := Bool.eq_iff_iff.mpr (by show (c == p) = true ↔ _; simp)
      rw [this]
      by_cases h : c = p
      · rw [decide_eq_true h, decide_eq_true h.symm]
      · rw [decide_eq_false h, decide_eq_false fun q => h q.symm]
    show (eqV (.int a) (.int p) || (eqV (.int b) (.int p) || false)) = _
    rw [k, k, Bool.or_false]
    by_cases h1 : p = a <;> by_cases h2 : p = b <;> simp [h1, h2]
  rw [← e]
  rfl
theorem ix2f (a b : Int) : fIx (.lst [.d (.int a), .d (.int b)]) (.d (.int 0)) = some (.d (.int a)) := rfl
theorem ix2t (a b : Int) : fIx (.lst [.d (.int a), .d (.int b)]) (.d (.int 1)) = some (.d (.int b)) := rfl
theorem j_el (s0 s1 s2 s3 s4 : Sl) (k p : Int) : jE [s0, s1, s2, s3, s4, .v (.d (.int k)), .v (.d (.int p))] = .ok (.d (.int (join k p))) [s0, s1, s2, s3, s4, .v (.d (.int k)), .v (.d (.int p))] := by
  unfold join
  by_cases h : p = k - 1 ∨ p = k + 1 <;> simp [in2, h, ix2f, ix2t, size2']
theorem j_lc (s0 s1 s2 s3 s4 : Sl) (k : Int) : ∀ (l acc : List Int), acc.length + l.length ≤ 1000 →
    lcL [6] (tName 6) dYes jE (l.map .int) (acc.map fun i => O.d (.int i)) [s0, s1, s2, s3, s4, .v (.d (.int k)), .no] = .ok (il (acc ++ l.map (join k))) [s0, s1, s2, s3, s4, .v (.d (.int k)), .no]
  | [], acc, _ => by
    show Rs.ok _ _ = _
    simp [il]
  | p :: l, acc, hz => by
    rw [List.length_cons] at hz
    have ih := j_lc s0 s1 s2 s3 s4 k l (acc ++ [join k p]) (by rw [List.length_append, List.length_singleton]; omega)
    refine lc_step _ _ _ _ _ _ _ _ _ _ _ _ _ _ (by simp) rfl (j_el s0 s1 s2 s3 s4 k p) (by rw [List.length_map]; omega) rfl ?_
    rw [List.map_append] at ih
    refine Eq.trans ih ?_
    simp
theorem wo5y' (t1 : Tg) (c1 : En → Rs Bool) (el : En → Rs O) (l : List Int) (h : 2 < n) (h5 : s5.pinned = false) (hz : fs.length < 100) (k1 : d__law_take [(O.dic keys7 o), .d (.int (n - 2))] = .ok (.d (.int d1)) [some (O.dic keys7 o1), some (.d (.int (n - 2)))])
  (e2 : lcL [6] t1 c1 el ds [] [.p (O.dic keys7 o1), .p (.d (.tup ds)), .v (.d (.int n)), .v (.lst fs), s4, .v (.d (.int (1 + d1))), .no] = .ok (il l) [.p (O.dic keys7 o1), .p (.d (.tup ds)), .v (.d (.int n)), .v (.lst fs), s4, .v (.d (.int (1 + d1))), .no]) :
  (sIf (dTst (dBin fGt (vS 2) (vT (dC (.int 2))))) (sSeq (sAsg (dBin fAdd (vT (dC (.int 1))) (vT (dCallF d__law_take [0, 1] (cCons (gName 0) (cCons (gVal (dBin fSub (vS 2) (vT (dC (.int 2))))) cNil))))) (tName 5))
  (sExpr (dMut 3 fAppend (aCons (dCall (on1 fTuple) (vCons (vT (dLc (iAny (dVar 1)) [6] t1 c1 el)) vNil)) aNil)))) sNext) [.p (O.dic keys7 o), .p (.d (.tup ds)), .v (.d (.int n)), .v (.lst fs), s4, s5, .no] = .nx [.p (O.dic keys7 o1), .p (.d (.tup ds)), .v (.d (.int n)), .v (.lst (fs ++ [.d (.tup (l.map .int))])), s4, .v (.d (.int (1 + d1))), .no] := by
  have hs : sizeLine ≥ 2000 := by decide
  have z5 : fs.length < sizeLine := by omega
  have w1 : wipeE [.p (O.dic keys7 o1), .p (.d (.tup ds)), .v (.d (.int n)), .v (.lst fs), s4, .v (.d (.int (1 + d1))), .no] [6] = [.p (O.dic keys7 o1), .p (.d (.tup ds)), .v (.d (.int n)), .v (.lst fs), s4, .v (.d (.int (1 + d1))), .no] := rfl
  simp [h, h5, k1, w1, e2, tup_il, fAppend, z5]
end
theorem dO (o o2 : List O) (r : O) (t : D) (s2 s3 s4 s5 s6 : Sl) (h : b__law_wrong_orders [.p (O.dic keys7 o), .p (.d t), .no, .no, .no, .no, .no] = .rt r [.p (O.dic keys7 o2), .p (.d t), s2, s3, s4, s5, s6]) :
  d__law_wrong_orders [(O.dic keys7 o), .d t] = .ok r [some (O.dic keys7 o2), some (.d t)] := by
  show denFn _ _ _ _ = _
  exact den_rt rfl h rfl
theorem pick4 (n y : Int) (d : Int) (h : 0 ≤ d) (h2 : d < 4) (hn : n ≤ 12) (hy : y < n) : ∃ x, fIx (.lst [.d (.int n), .d (.int (-1)), .d (.int (y - n)), .d (.int 100000000000000000000)]) (.d (.int d)) = some (.d (.int x)) ∧ ¬ (0 ≤ x ∧ x < n) := by
  have : d = 0 ∨ d = 1 ∨ d = 2 ∨ d = 3 := by omega
  rcases this with q | q | q | q <;> subst q
  · exact ⟨n, rfl, by omega⟩
  · exact ⟨-1, rfl, by omega⟩
  · exact ⟨y - n, rfl, by omega⟩
  · exact ⟨100000000000000000000, rfl, by omega⟩
theorem ixT_int {l : List Int} {i : Int} (h : 0 ≤ i) (h2 : i < l.length) : fIx (.d (.tup (l.map .int))) (.d (.int i)) = some (.d (.int (l.getD i.toNat 0))) := by
  obtain ⟨k, rfl⟩ := Int.eq_ofNat_of_zero_le h
  exact ixT_map (f := D.int) (getD_some (l := l) (k := k) (by omega))
theorem ixT_prev {l : List Int} {i : Int} (h : 0 ≤ i) (h2 : i < l.length) (h3 : 2 ≤ l.length) : ∃ b : Nat, b < l.length ∧ b ≠ i.toNat ∧ fIx (.d (.tup (l.map .int))) (.d (.int (i - 1))) = some (.d (.int (l.getD b 0))) := by
  by_cases h0 : i = 0
  · subst h0
    refine ⟨l.length - 1, by omega, by omega, ?_⟩
    have e1 : l = l.dropLast ++ [l.getD (l.length - 1) 0] := by
      have hne : l ≠ [] := fun q => by rw [q] at h3; simp at h3
      have e2 := List.dropLast_concat_getLast hne
      rw [List.getLast_eq_getElem] at e2
      rw [List.getD_eq_getElem?_getD, List.getElem?_eq_getElem (by omega)]
      exact e2.symm
    have e3 : atI (l.map D.int) (-1) = some (.int (l.getD (l.length - 1) 0)) := by
      generalize l.getD (l.length - 1) 0 = z at *
      rw [e1, List.map_append]
      exact atI_last _ _
    have e : fIxT (.d (.tup (l.map D.int))) (.d (.int (-1))) = some (.d (.int (l.getD (l.length - 1) 0))) := by
      show (atI (l.map D.int) (-1)).map O.d = _
      rw [e3]; rfl
    show (match fIxT (.d (.tup (l.map D.int))) (.d (.int (-1))) with
      | some z => some z
      | none => _) = _
    rw [e]
  · exact ⟨(i - 1).toNat, by omega, by omega, ixT_int (by omega) (by omega)⟩
theorem v_word (cells : List Int) (o : List O) (n : Nat) (hn : n ≤ 12) (l : List Int) (hl : l.Perm (rangeI n)) (hp : Pool cells (O.dic keys7 o)) :
  ∃ (ws : List D) (o2 : List O), d__law_wrong_orders [(O.dic keys7 o), .d (.tup (l.map .int))] = .ok (.lst (ws.map .d)) [some (O.dic keys7 o2), some (.d (.tup (l.map .int)))] ∧ Pool cells (O.dic keys7 o2) ∧ ∀ w ∈ ws, BadOrd w := by
  have hlen := o_len hl
  have hz : sizeLine ≥ 2000 := by decide
  have cat : ∀ a b : List Int, a.length + b.length ≤ 2000 → fAdd (.d (.tup (a.map .int))) (.d (.tup (b.map .int))) = some (.d (.tup ((a ++ b).map .int))) := fun a b h => cat_tl (by omega)
  have e0 : fLenU [.d (.tup (l.map .int))] = some (.d (.int (n : Int))) := by rw [y13, List.length_map, hlen]
  have a1 := cat l [(n : Int) + 1] (by simp; omega)
  have a2 := cat l [-1] (by simp; omega)
  have l1 := bo_out hn hl ((n : Int) + 1) (by omega)
  have l2 := bo_out hn hl (-1) (by omega)
  -- stage 3
  have st3 : ∀ fs : List D, fs.length ≤ 2 → (∀ w ∈ fs, BadOrd w) → ∃ (gs : List D) (o1 : List O) (t4 : Sl), wS3 [.p (O.dic keys7 o), .p (.d (.tup (l.map .int))), .v (.d (.int (n : Int))), .v (.lst (fs.map .d)), .no, .no, .no] = .nx [.p (O.dic keys7 o1), .p (.d (.tup (l.map .int))), .v (.d (.int (n : Int))), .v (.lst (gs.map .d)), t4, .no, .no] ∧ t4.pinned = false ∧ Pool cells (O.dic keys7 o1) ∧ gs.length ≤ 4 ∧ ∀ w ∈ gs, BadOrd w := by
    intro fs hf hb
    by_cases h : 0 < (n : Int)
    · obtain ⟨d1, o1, k1, h1, h1', p1⟩ := take_sp (n : Int) hp h (by omega)
      obtain ⟨d2, o2, k2, h2, h2', p2⟩ := take_sp 4 p1 (by omega) (by omega)
      have i0 := ixT_int (l := l) (i := d1) h1 (by omega)
      have hy : l.getD d1.toNat 0 < n := by
        have : l.getD d1.toNat 0 ∈ l := by
          rw [List.getD_eq_getElem?_getD, List.getElem?_eq_getElem (by omega)]
          exact List.getElem_mem _
        exact ((o_mem hl).mp this).2
      obtain ⟨x, i1, hx⟩ := pick4 n (l.getD d1.toNat 0) d2 h2 h2' (by omega) hy
      have a3 := cat l [l.getD d1.toNat 0] (by simp; omega)
      have c2 := st_to (l := l) (j := d1) h1
      have c3 := st_from (l := l) (j := d1 + 1) (by omega)
      rw [show (d1 + 1).toNat = d1.toNat + 1 by omega] at c3
      have c4 := cat (l.take d1.toNat) [x] (by rw [List.length_take]; simp; omega)
      have c5 := cat (l.take d1.toNat ++ [x]) (l.drop (d1.toNat + 1)) (by rw [List.length_append, List.length_take, List.length_drop]; simp; omega)
      have r := wo3y o o1 o2 n d1 d2 x _ _ (fs.map .d) .no .no .no _ _ _ _ _ h rfl (by rw [List.length_map]; omega) k1 k2 i0 a3 c2 i1 c4 c3 c5
      refine ⟨fs ++ [_] ++ [_], o2, _, by rw [List.map_append, List.map_append]; exact r, rfl, p2, by simp; omega, fun w hw => ?_⟩
      rcases List.mem_append.mp hw with hw | hw
      · rcases List.mem_append.mp hw with hw | hw
        · exact hb w hw
        · rw [List.mem_singleton.mp hw]; exact bo_twice hn hl _ (by omega)
      · rw [List.mem_singleton.mp hw]; exact bo_put hn hl _ (by omega) x hx
    · exact ⟨fs, o, .no, wo3n _ _ _ _ _ _ _ h, rfl, hp, by omega, hb⟩
  have st4 : ∀ (fs : List D) (o : List O) (s4 : Sl), Pool cells (O.dic keys7 o) → s4.pinned = false → fs.length ≤ 4 → (∀ w ∈ fs, BadOrd w) → ∃ (gs : List D) (o1 : List O) (t4 : Sl), wS4 [.p (O.dic keys7 o), .p (.d (.tup (l.map .int))), .v (.d (.int (n : Int))), .v (.lst (fs.map .d)), s4, .no, .no] = .nx [.p (O.dic keys7 o1), .p (.d (.tup (l.map .int))), .v (.d (.int (n : Int))), .v (.lst (gs.map .d)), t4, .no, .no] ∧ Pool cells (O.dic keys7 o1) ∧ gs.length ≤ 5 ∧ ∀ w ∈ gs, BadOrd w := by
    intro fs o s4 hp h4 hf hb
    by_cases h : 1 < (n : Int)
    · obtain ⟨d1, o1, k1, h1, h1', p1⟩ := take_sp (n : Int) hp (by omega) (by omega)
      obtain ⟨b, hb1, hb2, i0⟩ := ixT_prev (l := l) (i := d1) h1 (by omega) (by omega)
      have c2 := st_to (l := l) (j := d1) h1
      have c3 := st_from (l := l) (j := d1 + 1) (by omega)
      rw [show (d1 + 1).toNat = d1.toNat + 1 by omega] at c3
      have c4 := cat (l.take d1.toNat) [l.getD b 0] (by rw [List.length_take]; simp; omega)
      have c5 := cat (l.take d1.toNat ++ [l.getD b 0]) (l.drop (d1.toNat + 1)) (by rw [List.length_append, List.length_take, List.length_drop]; simp; omega)
      have r := wo4y o o1 n d1 _ _ (fs.map .d) s4 .no .no _ _ _ _ h h4 (by rw [List.length_map]; omega) k1 i0 c2 c4 c3 c5
      refine ⟨fs ++ [_], o1, _, by rw [List.map_append]; exact r, p1, by simp; omega, fun w hw => ?_⟩
      rcases List.mem_append.mp hw with hw | hw
      · exact hb w hw
      · rw [List.mem_singleton.mp hw]; exact bo_copy hn hl _ _ (by omega) (by omega) hb2
    · exact ⟨fs, o, s4, wo4n _ _ _ _ _ _ _ h, hp, by omega, hb⟩
  have st5 : ∀ (fs : List D) (o : List O) (s4 : Sl), Pool cells (O.dic keys7 o) → fs.length ≤ 5 → (∀ w ∈ fs, BadOrd w) → ∃ (gs : List D) (o1 : List O) (t5 : Sl), wS5 [.p (O.dic keys7 o), .p (.d (.tup (l.map .int))), .v (.d (.int (n : Int))), .v (.lst (fs.map .d)), s4, .no, .no] = .nx [.p (O.dic keys7 o1), .p (.d (.tup (l.map .int))), .v (.d (.int (n : Int))), .v (.lst (gs.map .d)), s4, t5, .no] ∧ Pool cells (O.dic keys7 o1) ∧ ∀ w ∈ gs, BadOrd w := by
    intro fs o s4 hp hf hb
    by_cases h : 2 < (n : Int)
    · obtain ⟨d1, o1, k1, h1, h1', p1⟩ := take_sp ((n : Int) - 2) hp (by omega) (by omega)
      have e2 := j_lc (.p (O.dic keys7 o1)) (.p (.d (.tup (l.map .int)))) (.v (.d (.int (n : Int)))) (.v (.lst (fs.map .d))) s4 (1 + d1) l [] (by show 0 + _ ≤ _; omega)
      have r := wo5y' o o1 n d1 _ (fs.map .d) s4 .no (tName 6) dYes jE _ h rfl (by rw [List.length_map]; omega) k1 e2
      refine ⟨fs ++ [_], o1, _, by rw [List.map_append]; exact r, p1, fun w hw => ?_⟩
      rcases List.mem_append.mp hw with hw | hw
      · exact hb w hw
      · rw [List.mem_singleton.mp hw]; exact bo_join hn hl _ (by omega) (by omega)
    · exact ⟨fs, o, _, wo5n _ _ _ _ _ _ _ h, hp, hb⟩
  obtain ⟨g3, o3, t3, r3, q3, p3, m3, b3⟩ := st3 [_, _] (by simp) (fun w hw => by
    rcases List.mem_cons.mp hw with q | hw
    · rw [q]; exact l1
    rcases List.mem_cons.mp hw with q | hw
    · rw [q]; exact l2
    cases hw)
  obtain ⟨g4, o4, t4, r4, p4, m4, b4⟩ := st4 g3 o3 t3 p3 q3 m3 b3
  obtain ⟨g5, o5, t5, r5, p5, b5⟩ := st5 g4 o4 t4 p4 m4 b4
  refine ⟨g5, o5, dO o o5 _ _ (.v (.d (.int (n : Int)))) .no t4 t5 .no ?_, p5, b5⟩
  refine Eq.trans (wo1 o n _ _ _ _ e0 a1 a2) ?_
  refine seq_nx r3 (seq_nx r4 (seq_nx r5 ?_))
  simp
end K73

namespace K73
open PySem L2 MX
/-! ### the law's draws and loops -/
abbrev tkE : En → Rs O := (dCallF d__law_take [0, 1] (cCons (gName 1) (cCons (gVal (dC (.int 2))) cNil)))
theorem tk_el (o o1 : List O) (d : Int) (s0 s2 s3 s4 s5 s6 s7 s8 s9 s10 s11 s12 s13 : Sl) (k : d__law_take [(O.dic keys7 o), .d (.int 2)] = .ok (.d (.int d)) [some (O.dic keys7 o1), some (.d (.int 2))]) :
  tkE [s0, .v (O.dic keys7 o), s2, s3, s4, s5, s6, s7, s8, s9, s10, s11, s12, s13] = .ok (.d (.int d)) [s0, .v (O.dic keys7 o1), s2, s3, s4, s5, s6, s7, s8, s9, s10, s11, s12, s13] := by
  simp [k]
theorem tk_lc {cells : List Int} (s0 s2 s3 s4 s5 s6 s7 s8 s9 s10 s12 s13 : Sl) : ∀ (ds : List D) (acc : List Int) (o : List O), acc.length + ds.length ≤ 1000 → (∀ s ∈ acc, bit s) → Pool cells (O.dic keys7 o) →
    ∃ r o1, lcL [11] (tName 11) dYes tkE ds (acc.map fun i => O.d (.int i)) [s0, .v (O.dic keys7 o), s2, s3, s4, s5, s6, s7, s8, s9, s10, .no, s12, s13] = .ok (il r) [s0, .v (O.dic keys7 o1), s2, s3, s4, s5, s6, s7, s8, s9, s10, .no, s12, s13] ∧ Pool cells (O.dic keys7 o1) ∧ r.length = acc.length + ds.length ∧ ∀ s ∈ r, bit s
  | [], acc, o, _, hb, hp => ⟨acc, o, rfl, hp, rfl, hb⟩
  | d :: ds, acc, o, hz, hb, hp => by
    rw [List.length_cons] at hz
    obtain ⟨x, o1, k, h1, h2, p1⟩ := take_sp 2 hp (by omega) (by omega)
    obtain ⟨r, o2, ih, p2, hl, hr⟩ := tk_lc s0 s2 s3 s4 s5 s6 s7 s8 s9 s10 s12 s13 ds (acc ++ [x]) o1 (by rw [List.length_append, List.length_singleton]; omega) (fun s hs => by
      rcases List.mem_append.mp hs with q | q
      · exact hb s q
      · rw [List.mem_singleton.mp q]; unfold bit; omega) p1
    refine ⟨r, o2, ?_, p2, by rw [hl, List.length_append, List.length_singleton, List.length_cons]; omega, hr⟩
    refine lc_step _ _ _ _ _ _ _ _ _ _ _ _ _ _ (by simp) rfl (tk_el o o1 x s0 s2 s3 s4 s5 s6 s7 s8 s9 s10 (.v (.d d)) s12 s13 k) (by rw [List.length_map]; omega) rfl ?_
    rw [List.map_append] at ih
    exact ih
abbrev poE : En → Rs O := (dMut 8 fPopAt (aCons (dCallF d__law_take [0, 1] (cCons (gName 1) (cCons (gVal (dCall fLenU (vCons (vS 8) vNil))) cNil))) aNil))
theorem po_el (o o1 : List O) (x : O) (d q : Int) (c c1 : List O) (s0 s2 s3 s4 s5 s6 s7 s9 s10 s11 s12 s13 : Sl) (e0 : fLenU [.lst c] = some (.d (.int q))) (k : d__law_take [(O.dic keys7 o), .d (.int q)] = .ok (.d (.int d)) [some (O.dic keys7 o1), some (.d (.int q))]) (e1 : fPopAt c [.d (.int d)] = some (c1, x)) :
  poE [s0, .v (O.dic keys7 o), s2, s3, s4, s5, s6, s7, .v (.lst c), s9, s10, s11, s12, s13] = .ok x [s0, .v (O.dic keys7 o1), s2, s3, s4, s5, s6, s7, .v (.lst c1), s9, s10, s11, s12, s13] := by
  simp [e0, k, e1, -y14]
theorem erase_perm {r : List Int} {k : Nat} (hk : k < r.length) : (r[k] :: r.eraseIdx k).Perm r := by
  rw [List.eraseIdx_eq_take_drop_succ]
  have e : r = r.take k ++ r[k] :: r.drop (k + 1) := by rw [← List.drop_eq_getElem_cons hk, List.take_append_drop]
  exact (List.perm_middle.symm).trans (List.Perm.of_eq e.symm)
theorem pop_il {r : List Int} {d : Int} (h : 0 ≤ d) (h2 : d < r.length) (hr : r.length ≤ 1000) : fPopAt (r.map fun i => O.d (.int i)) [.d (.int d)] = some ((r.eraseIdx d.toNat).map fun i => O.d (.int i), .d (.int (r.getD d.toNat 0))) := by
  have hz : sizeLine ≥ 2000 := by decide
  show (if 0 ≤ d ∧ d < (r.map fun i => O.d (.int i)).length ∧ (r.map fun i => O.d (.int i)).length ≤ sizeLine then _ else none) = _
  rw [List.length_map, if_pos ⟨h, h2, by omega⟩, List.getElem?_map, getD_some (l := r) (k := d.toNat) (by omega)]
  simp [List.eraseIdx_eq_take_drop_succ, List.map_append, List.map_take, List.map_drop]
theorem po_lc {cells : List Int} (s0 s2 s3 s4 s5 s6 s7 s9 s10 s11 s12 : Sl) : ∀ (ds : List D) (acc r : List Int) (o : List O), acc.length + r.length ≤ 1000 → r.length = ds.length → Pool cells (O.dic keys7 o) →
    ∃ l o1, lcL [13] (tName 13) dYes poE ds (acc.map fun i => O.d (.int i)) [s0, .v (O.dic keys7 o), s2, s3, s4, s5, s6, s7, .v (il r), s9, s10, s11, s12, .no] = .ok (il l) [s0, .v (O.dic keys7 o1), s2, s3, s4, s5, s6, s7, .v (il []), s9, s10, s11, s12, .no] ∧ Pool cells (O.dic keys7 o1) ∧ l.Perm (acc ++ r)
  | [], acc, r, o, _, hr, hp => by
    rw [List.length_eq_zero_iff.mp hr]
    exact ⟨acc, o, rfl, hp, by simp⟩
  | d :: ds, acc, r, o, hz, hr, hp => by
    rw [List.length_cons] at hr
    obtain ⟨x, o1, k, h1, h2, p1⟩ := take_sp (r.length : Int) hp (by omega) (by omega)
    have hk : x.toNat < r.length := by omega
    obtain ⟨l, o2, ih, p2, hl⟩ := po_lc s0 s2 s3 s4 s5 s6 s7 s9 s10 s11 s12 ds (acc ++ [r.getD x.toNat 0]) (r.eraseIdx x.toNat) o1 (by rw [List.length_append, List.length_singleton, List.length_eraseIdx_of_lt hk]; omega) (by rw [List.length_eraseIdx_of_lt hk]; omega) p1
    refine ⟨l, o2, ?_, p2, hl.trans ?_⟩
    · refine lc_step _ _ _ _ _ _ _ _ _ _ _ _ _ _ (by simp [il]) rfl (po_el o o1 _ x _ _ _ s0 s2 s3 s4 s5 s6 s7 s9 s10 s11 s12 (.v (.d d)) (len_il r) k (pop_il h1 h2 (by omega))) (by rw [List.length_map]; omega) rfl ?_
      rw [List.map_append] at ih
      exact ih
    · rw [List.append_assoc, List.getD_eq_getElem?_getD, List.getElem?_eq_getElem hk]
      exact List.Perm.append_left acc (erase_perm hk)
/-! the refusals -/
abbrev rfB (i w : Nat) : En → Out := (sIf (dNotT (dTst (dCallF d__law_refused [0, 1, 2] (cCons (gName i) (cCons (gName 6) (cCons (gVal (dC (.int w))) cNil)))))) (sRet (dC (.bl false))) sNext)
theorem rf0_step (n : Int) (w : D) (s0 s1 s3 s4 s5 s6 s7 s8 s9 s10 s11 s12 s13 : Sl) (ds : List D) (R : Out) (h6 : s6.pinned = false) (e : d__law_refused [.d (.int n), .d w, .d (.int 0)] = .ok (.d (.bl true)) [some (.d (.int n)), some (.d w), some (.d (.int 0))])
  (h : sForL (tName 6) (rfB 2 0) ds [s0, s1, .v (.d (.int n)), s3, s4, s5, .v (.d w), s7, s8, s9, s10, s11, s12, s13] = R) :
  sForL (tName 6) (rfB 2 0) (w :: ds) [s0, s1, .v (.d (.int n)), s3, s4, s5, s6, s7, s8, s9, s10, s11, s12, s13] = R := by
  rw [u2]
  simp [h6, e, h]
theorem rf1_step (n : Int) (w : D) (s0 s1 s2 s3 s4 s5 s6 s8 s9 s10 s11 s12 s13 : Sl) (ds : List D) (R : Out) (h6 : s6.pinned = false) (e : d__law_refused [.d (.int n), .d w, .d (.int 1)] = .ok (.d (.bl true)) [some (.d (.int n)), some (.d w), some (.d (.int 1))])
  (h : sForL (tName 6) (rfB 7 1) ds [s0, s1, s2, s3, s4, s5, .v (.d w), .v (.d (.int n)), s8, s9, s10, s11, s12, s13] = R) :
  sForL (tName 6) (rfB 7 1) (w :: ds) [s0, s1, s2, s3, s4, s5, s6, .v (.d (.int n)), s8, s9, s10, s11, s12, s13] = R := by
  rw [u2]
  simp [h6, e, h]
theorem rf0_loop (n : Nat) (hn : n ≤ 12) (s0 s1 s3 s4 s5 s7 s8 s9 s10 s11 s12 s13 : Sl) : ∀ (ws : List D) (s6 : Sl), s6.pinned = false → (∀ w ∈ ws, BadSet (n * (n - 1) / 2) w) →
   ∃ t6, t6.pinned = false ∧ sForL (tName 6) (rfB 2 0) ws [s0, s1, .v (.d (.int n)), s3, s4, s5, s6, s7, s8, s9, s10, s11, s12, s13] = .nx [s0, s1, .v (.d (.int n)), s3, s4, s5, t6, s7, s8, s9, s10, s11, s12, s13]
  | [], s6, h6, _ => ⟨s6, h6, by simp⟩
  | w :: ws, s6, h6, h => by
    obtain ⟨t6, q6, ih⟩ := rf0_loop n hn s0 s1 s3 s4 s5 s7 s8 s9 s10 s11 s12 s13 ws (.v (.d w)) rfl (fun x hx => h x (List.mem_cons_of_mem _ hx))
    obtain ⟨l, rfl, hb⟩ := h w List.mem_cons_self
    exact ⟨t6, q6, rf0_step _ _ _ _ _ _ _ _ _ _ _ _ _ _ _ _ _ h6 (v_ref0 n (by omega) l hb) ih⟩
theorem rf1_loop (n : Nat) (s0 s1 s2 s3 s4 s5 s8 s9 s10 s11 s12 s13 : Sl) : ∀ (ws : List D) (s6 : Sl), s6.pinned = false → (∀ w ∈ ws, BadOrd w) →
   ∃ t6, t6.pinned = false ∧ sForL (tName 6) (rfB 7 1) ws [s0, s1, s2, s3, s4, s5, s6, .v (.d (.int n)), s8, s9, s10, s11, s12, s13] = .nx [s0, s1, s2, s3, s4, s5, t6, .v (.d (.int n)), s8, s9, s10, s11, s12, s13]
  | [], s6, h6, _ => ⟨s6, h6, by simp⟩
  | w :: ws, s6, h6, h => by
    obtain ⟨t6, q6, ih⟩ := rf1_loop n s0 s1 s2 s3 s4 s5 s8 s9 s10 s11 s12 s13 ws (.v (.d w)) rfl (fun x hx => h x (List.mem_cons_of_mem _ hx))
    obtain ⟨l, rfl, hl, hb⟩ := h w List.mem_cons_self
    exact ⟨t6, q6, rf1_step _ _ _ _ _ _ _ _ _ _ _ _ _ _ _ _ _ h6 (v_ref1 n l hl hb) ih⟩
end K73

namespace K73
open PySem L2 MX
/-! ### the law, stage by stage -/
theorem tup_lst (ds : List D) : on1 fTuple [.lst (ds.map .d)] = some (.d (.tup ds)) := by
  show (O.lst (ds.map .d)).ls.map (fun ds => O.d (.tup ds)) = _
  have : (O.lst (ds.map .d)).ls = some ds := leafs_map ds
  rw [this]
  rfl
theorem pickN (a b c d : Int) (ha : 0 ≤ a ∧ a < 9) (hb : 0 ≤ b ∧ b < 9) (hc : 0 ≤ c ∧ c < 13) (h : 0 ≤ d) (h2 : d < 3) : ∃ n : Nat, fIx (.lst [.d (.int a), .d (.int b), .d (.int c)]) (.d (.int d)) = some (.d (.int (n : Int))) ∧ n ≤ 12 := by
  have : d = 0 ∨ d = 1 ∨ d = 2 := by omega
  rcases this with q | q | q <;> subst q
  · exact ⟨a.toNat, by rw [Int.toNat_of_nonneg ha.1]; rfl, by omega⟩
  · exact ⟨b.toNat, by rw [Int.toNat_of_nonneg hb.1]; rfl, by omega⟩
  · exact ⟨c.toNat, by rw [Int.toNat_of_nonneg hc.1]; rfl, by omega⟩
section
variable {s0 s1 s2 s3 s4 s5 s6 s7 s8 s9 s10 s11 s12 s13 : Sl}
abbrev a1 : En → Out := (sAsg (dCallF d__law_pool [0] (cCons (gName 0) cNil)) (tName 1))
theorem r1 {sc : D} {o : List O} (k : d__law_pool [.d sc] = .ok (O.dic keys7 o) [some (.d sc)]) (h1 : s1.pinned = false) : a1 [.p (.d sc), s1, s2, s3, s4, s5, s6, s7, s8, s9, s10, s11, s12, s13] = .nx [.p (.d sc), .v (O.dic keys7 o), s2, s3, s4, s5, s6, s7, s8, s9, s10, s11, s12, s13] := by
  simp [k, h1]
abbrev a2 : En → Out := (sAsg (dBin fIx (vT (dLst (aCons (dCallF d__law_take [0, 1] (cCons (gName 1) (cCons (gVal (dC (.int 9))) cNil))) (aCons (dCallF d__law_take [0, 1] (cCons (gName 1) (cCons (gVal (dC (.int 9))) cNil))) (aCons (dCallF d__law_take [0, 1] (cCons (gName 1) (cCons (gVal (dC (.int 13))) cNil))) aNil))))) (vT (dCallF d__law_take [0, 1] (cCons (gName 1) (cCons (gVal (dC (.int 3))) cNil))))) (tName 2))
theorem r2 {o o1 o2 o3 o4 : List O} {a b c d n : Int} (h2 : s2.pinned = false) (k1 : d__law_take [(O.dic keys7 o), .d (.int 9)] = .ok (.d (.int a)) [some (O.dic keys7 o1), some (.d (.int 9))]) (k2 : d__law_take [(O.dic keys7 o1), .d (.int 9)] = .ok (.d (.int b)) [some (O.dic keys7 o2), some (.d (.int 9))]) (k3 : d__law_take [(O.dic keys7 o2), .d (.int 13)] = .ok (.d (.int c)) [some (O.dic keys7 o3), some (.d (.int 13))]) (k4 : d__law_take [(O.dic keys7 o3), .d (.int 3)] = .ok (.d (.int d)) [some (O.dic keys7 o4), some (.d (.int 3))])
  (e : fIx (.lst [.d (.int a), .d (.int b), .d (.int c)]) (.d (.int d)) = some (.d (.int n))) : a2 [s0, .v (O.dic keys7 o), s2, s3, s4, s5, s6, s7, s8, s9, s10, s11, s12, s13] = .nx [s0, .v (O.dic keys7 o4), .v (.d (.int n)), s3, s4, s5, s6, s7, s8, s9, s10, s11, s12, s13] := by
  have z3 : (3 : Nat) ≤ sizeLine := by decide
  have z1 : (1 : Nat) ≤ sizeLine := by decide
  simp [h2, k1, k2, k3, k4, e, z3, z1, size2']
theorem r3 {el : En → Rs O} {x : O}  (h : el [s0, s1, s2, .no, s4, s5, s6, s7, s8, s9, s10, s11, s12, s13] = .ok x [s0, s1, s2, .no, s4, s5, s6, s7, s8, s9, s10, s11, s12, s13]) : (sAsg el (tName 3)) [s0, s1, s2, .no, s4, s5, s6, s7, s8, s9, s10, s11, s12, s13] = .nx [s0, s1, s2, .v x, s4, s5, s6, s7, s8, s9, s10, s11, s12, s13] := by
  simp [h]
abbrev a4 : En → Out := (sIf (dNotT (dTst (dCallF (d__law_same 8) [0, 1] (cCons (gVal (dCallF d_switch_places [0] (cCons (gName 2) cNil))) (cCons (gVal (dCall (on1 fTuple) (vCons (vS 3) vNil))) cNil))))) (sRet (dC (.bl false))) sNext)
theorem r4 {n : Int} {ds : List D} (k1 : d_switch_places [.d (.int n)] = .ok (.d (.tup ds)) [some (.d (.int n))]) (k2 : SameK 8 (.tup ds)) : a4 [s0, s1, .v (.d (.int n)), .v (.lst (ds.map .d)), s4, s5, s6, s7, s8, s9, s10, s11, s12, s13] = .nx [s0, s1, .v (.d (.int n)), .v (.lst (ds.map .d)), s4, s5, s6, s7, s8, s9, s10, s11, s12, s13] := by
  unfold SameK at k2
  simp [k1, k2, tup_lst]
theorem r5 {t1 : Tg} {c1 : En → Rs Bool} {el : En → Rs O} {o o1 : List O} {n : Int} {sw : List D} {l : List Int} (h4 : s4.pinned = false) (e1 : d__law_switches [.d (.int n)] = .ok (.lst (sw.map .d)) [some (.d (.int n))])
  (e2 : lcL [11] t1 c1 el sw [] [s0, .v (O.dic keys7 o), .v (.d (.int n)), s3, s4, s5, s6, s7, s8, s9, s10, .no, s12, s13] = .ok (il l) [s0, .v (O.dic keys7 o1), .v (.d (.int n)), s3, s4, s5, s6, s7, s8, s9, s10, .no, s12, s13]) :
  (sAsg (dCall (on1 fTuple) (vCons (vT (dLc (iAny (dCallF d__law_switches [0] (cCons (gName 2) cNil))) [11] t1 c1 el)) vNil)) (tName 4)) [s0, .v (O.dic keys7 o), .v (.d (.int n)), s3, s4, s5, s6, s7, s8, s9, s10, .no, s12, s13] = .nx [s0, .v (O.dic keys7 o1), .v (.d (.int n)), s3, .v (.d (.tup (l.map .int))), s5, s6, s7, s8, s9, s10, .no, s12, s13] := by
  have w1 : wipeE [s0, .v (O.dic keys7 o), .v (.d (.int n)), s3, s4, s5, s6, s7, s8, s9, s10, .no, s12, s13] [11] = [s0, .v (O.dic keys7 o), .v (.d (.int n)), s3, s4, s5, s6, s7, s8, s9, s10, .no, s12, s13] := rfl
  simp [e1, w1, e2, tup_il, h4]
abbrev a6 : En → Out := (sFor (iAny (dLst (aCons (dCallF d_source_places [0, 1] (cCons (gName 2) (cCons (gName 4) cNil))) (aCons (dCallF d_source_places [0, 1] (cCons (gName 2) (cCons (gName 4) cNil))) aNil)))) (tName 5) (sIf (dNotT (dTst (dCallF (d__law_same 8) [0, 1] (cCons (gName 5) (cCons (gVal (dCallF d__law_sources [0, 1] (cCons (gName 2) (cCons (gName 4) cNil)))) cNil))))) (sRet (dC (.bl false))) sNext))
theorem leafs2 {x : D} : leafs [.d x, .d x] = some [x, x] := rfl
theorem r6 {n : Int} {t r : D} (h5 : s5.pinned = false) (k1 : d_source_places [.d (.int n), .d t] = .ok (.d r) [some (.d (.int n)), some (.d t)]) (k2 : d__law_sources [.d (.int n), .d t] = .ok (.d r) [some (.d (.int n)), some (.d t)]) (k3 : SameK 8 r) :
  a6 [s0, s1, .v (.d (.int n)), s3, .v (.d t), s5, s6, s7, s8, s9, s10, s11, s12, s13] = .nx [s0, s1, .v (.d (.int n)), s3, .v (.d t), .v (.d r), s6, s7, s8, s9, s10, s11, s12, s13] := by
  unfold SameK at k3
  simp [k1, k2, k3, leafs2, size2', h5, u2]
theorem r8 {t1 : Tg} {B : En → Out} {o o1 : List O} {n : Int} {t : D} {ws : List D} {R : Out} (k : d__law_wrong_settings [(O.dic keys7 o), .d (.int n), .d t] = .ok (.lst (ws.map .d)) [some (O.dic keys7 o1), some (.d (.int n)), some (.d t)])
  (h : sForL t1 B ws [s0, .v (O.dic keys7 o1), .v (.d (.int n)), s3, .v (.d t), s5, s6, s7, s8, s9, s10, s11, s12, s13] = R) :
  (sFor (iAny (dCallF d__law_wrong_settings [0, 1, 2] (cCons (gName 1) (cCons (gName 2) (cCons (gName 4) cNil))))) t1 B) [s0, .v (O.dic keys7 o), .v (.d (.int n)), s3, .v (.d t), s5, s6, s7, s8, s9, s10, s11, s12, s13] = R := by
  simp [k, h]
theorem leafs2' {x y : D} : leafs [.d x, .d y] = some [x, y] := rfl
theorem r9 {t1 : Tg} {B : En → Out} {o o1 o2 : List O} {a b : Int} {R : Out} (k1 : d__law_take [(O.dic keys7 o), .d (.int 7)] = .ok (.d (.int a)) [some (O.dic keys7 o1), some (.d (.int 7))]) (k2 : d__law_take [(O.dic keys7 o1), .d (.int 13)] = .ok (.d (.int b)) [some (O.dic keys7 o2), some (.d (.int 13))])
  (h : sForL t1 B [.int a, .int b] [s0, .v (O.dic keys7 o2), s2, s3, s4, s5, s6, s7, s8, s9, s10, s11, s12, s13] = R) :
  (sFor (iAny (dLst (aCons (dCallF d__law_take [0, 1] (cCons (gName 1) (cCons (gVal (dC (.int 7))) cNil))) (aCons (dCallF d__law_take [0, 1] (cCons (gName 1) (cCons (gVal (dC (.int 13))) cNil))) aNil)))) t1 B) [s0, .v (O.dic keys7 o), s2, s3, s4, s5, s6, s7, s8, s9, s10, s11, s12, s13] = R := by
  simp [k1, k2, leafs2', size2', h]
/-! the body for each size -/
abbrev b1 : En → Out := (sAsg (dLRg (rg1 (vS 7))) (tName 8))
theorem t1 {n : Int} {l : List Int} (h8 : s8.pinned = false) (k1 : rgB 0 n = true) (k2 : O.lst ((rgD 0 n).map .d) = il l) : b1 [s0, s1, s2, s3, s4, s5, s6, .v (.d (.int n)), s8, s9, s10, s11, s12, s13] = .nx [s0, s1, s2, s3, s4, s5, s6, .v (.d (.int n)), .v (il l), s9, s10, s11, s12, s13] := by
  simp [k1, k2, h8]
theorem t2 {tg : Tg} {c1 : En → Rs Bool} {el : En → Rs O} {o o1 : List O} {x y : O} {n : Int} {ix : List D} {l : List Int} (h9 : s9.pinned = false) (e1 : gR1 [.d (.int n)] = some ix)
  (e2 : lcL [13] tg c1 el ix [] [s0, .v (O.dic keys7 o), s2, s3, s4, s5, s6, .v (.d (.int n)), .v x, s9, s10, s11, s12, .no] = .ok (il l) [s0, .v (O.dic keys7 o1), s2, s3, s4, s5, s6, .v (.d (.int n)), .v y, s9, s10, s11, s12, .no]) :
  (sAsg (dCall (on1 fTuple) (vCons (vT (dLc (iOps (vCons (vS 7) vNil) gR1) [13] tg c1 el)) vNil)) (tName 9)) [s0, .v (O.dic keys7 o), s2, s3, s4, s5, s6, .v (.d (.int n)), .v x, s9, s10, s11, s12, .no] = .nx [s0, .v (O.dic keys7 o1), s2, s3, s4, s5, s6, .v (.d (.int n)), .v y, .v (.d (.tup (l.map .int))), s10, s11, s12, .no] := by
  have w1 : wipeE [s0, .v (O.dic keys7 o), s2, s3, s4, s5, s6, .v (.d (.int n)), .v x, s9, s10, s11, s12, .no] [13] = [s0, .v (O.dic keys7 o), s2, s3, s4, s5, s6, .v (.d (.int n)), .v x, s9, s10, s11, s12, .no] := rfl
  simp [e1, w1, e2, tup_il, h9]
abbrev b3 : En → Out := (sAsg (dCallF d_settings_for [0] (cCons (gName 9) cNil)) (tName 5))
theorem t3 {x y : D} (h5 : s5.pinned = false) (k : d_settings_for [.d x] = .ok (.d y) [some (.d x)]) : b3 [s0, s1, s2, s3, s4, s5, s6, s7, s8, .v (.d x), s10, s11, s12, s13] = .nx [s0, s1, s2, s3, s4, .v (.d y), s6, s7, s8, .v (.d x), s10, s11, s12, s13] := by
  simp [k, h5]
abbrev b4 : En → Out := (sIf (dOrT (dNotT (dTst (dCallF (d__law_same 8) [0, 1] (cCons (gName 5) (cCons (gVal (dCallF d__law_goals [0] (cCons (gName 9) cNil))) cNil))))) (dNotT (dTst (dCallF (d__law_same 8) [0, 1] (cCons (gVal (dCallF d_source_places [0, 1] (cCons (gName 7) (cCons (gName 5) cNil)))) (cCons (gName 9) cNil)))))) (sRet (dC (.bl false))) sNext)
theorem t4 {n : Int} {x y : D} (k1 : d__law_goals [.d x] = .ok (.d y) [some (.d x)]) (k2 : d_source_places [.d (.int n), .d y] = .ok (.d x) [some (.d (.int n)), some (.d y)]) (k3 : SameK 8 x) (k4 : SameK 8 y) :
  b4 [s0, s1, s2, s3, s4, .v (.d y), s6, .v (.d (.int n)), s8, .v (.d x), s10, s11, s12, s13] = .nx [s0, s1, s2, s3, s4, .v (.d y), s6, .v (.d (.int n)), s8, .v (.d x), s10, s11, s12, s13] := by
  unfold SameK at k3 k4
  simp [k1, k2, k3, k4]
abbrev b5 : En → Out := (sIf (dNotT (dTst (dCallF (d__law_same 8) [0, 1] (cCons (gVal (dCallF d_settings_for [0] (cCons (gName 9) cNil))) (cCons (gName 5) cNil))))) (sRet (dC (.bl false))) sNext)
theorem t5 {x y : D} (k1 : d_settings_for [.d x] = .ok (.d y) [some (.d x)]) (k4 : SameK 8 y) :
  b5 [s0, s1, s2, s3, s4, .v (.d y), s6, s7, s8, .v (.d x), s10, s11, s12, s13] = .nx [s0, s1, s2, s3, s4, .v (.d y), s6, s7, s8, .v (.d x), s10, s11, s12, s13] := by
  unfold SameK at k4
  simp [k1, k4]
abbrev b6 : En → Out := (sIf (dTst (dBin fNe (vT (dCallF d__law_sources [0, 1] (cCons (gName 7) (cCons (gName 5) cNil)))) (vS 9))) (sRet (dC (.bl false))) sNext)
theorem t6 {n : Int} {x y : D} (k1 : d__law_sources [.d (.int n), .d y] = .ok (.d x) [some (.d (.int n)), some (.d y)]) (k2 : fNe (.d x) (.d x) = some (.d (.bl false))) :
  b6 [s0, s1, s2, s3, s4, .v (.d y), s6, .v (.d (.int n)), s8, .v (.d x), s10, s11, s12, s13] = .nx [s0, s1, s2, s3, s4, .v (.d y), s6, .v (.d (.int n)), s8, .v (.d x), s10, s11, s12, s13] := by
  simp [k1, k2]
theorem t7 {tg : Tg} {B : En → Out} {o o1 : List O} {x : D} {ws : List D} {R : Out} (k : d__law_wrong_orders [(O.dic keys7 o), .d x] = .ok (.lst (ws.map .d)) [some (O.dic keys7 o1), some (.d x)])
  (h : sForL tg B ws [s0, .v (O.dic keys7 o1), s2, s3, s4, s5, s6, s7, s8, .v (.d x), s10, s11, s12, s13] = R) :
  (sFor (iAny (dCallF d__law_wrong_orders [0, 1] (cCons (gName 1) (cCons (gName 9) cNil)))) tg B) [s0, .v (O.dic keys7 o), s2, s3, s4, s5, s6, s7, s8, .v (.d x), s10, s11, s12, s13] = R := by
  simp [k, h]
end
abbrev szB : En → Out := (sSeq b1 (sSeq (sAsg (dCall (on1 fTuple) (vCons (vT (dLc (iOps (vCons (vS 7) vNil) gR1) [13] (tName 13) dYes poE)) vNil)) (tName 9)) (sSeq b3 (sSeq b4 (sSeq b5 (sSeq b6 (sFor (iAny (dCallF d__law_wrong_orders [0, 1] (cCons (gName 1) (cCons (gName 9) cNil)))) (tName 6) (rfB 7 1))))))))
theorem sz_body {cells : List Int} (n : Nat) (hn : n ≤ 12) (o : List O) (hp : Pool cells (O.dic keys7 o)) (s0 s2 s3 s4 s5 s6 s8 s9 s10 s11 s12 : Sl) (h5 : s5.pinned = false) (h6 : s6.pinned = false) (h8 : s8.pinned = false) (h9 : s9.pinned = false) :
   ∃ o1 u5 u6 u8 u9, szB [s0, .v (O.dic keys7 o), s2, s3, s4, s5, s6, .v (.d (.int n)), s8, s9, s10, s11, s12, .no] = .nx [s0, .v (O.dic keys7 o1), s2, s3, s4, u5, u6, .v (.d (.int n)), u8, u9, s10, s11, s12, .no] ∧ Pool cells (O.dic keys7 o1) ∧ u5.pinned = false ∧ u6.pinned = false ∧ u8.pinned = false ∧ u9.pinned = false := by
  obtain ⟨l, o1, e2, p1, hl⟩ := po_lc (cells := cells) s0 s2 s3 s4 s5 s6 (.v (.d (.int n))) s9 s10 s11 s12 (idx 0 n) [] (rangeI n) o (by rw [rangeI_len]; show 0 + n ≤ 1000; omega) (by rw [rangeI_len]; unfold idx; rw [List.length_map, List.length_range']) hp
  rw [List.nil_append] at hl
  have hlen := o_len hl
  have v1 := v_set l n hn hlen hl
  have v2 := v_goals l n hn hl
  have hss : (sortS (swL n) (putG 0 l (List.replicate n 0))).length = n * (n - 1) / 2 := by rw [sortS_len, sw_len n hn]
  have v3 := v_sources n hn (sortS (swL n) (putG 0 l (List.replicate n 0))) hss (fun s hs => sortS_bit s hs)
  have v4 := v_lsrc n hn (sortS (swL n) (putG 0 l (List.replicate n 0))) hss (fun s hs => sortS_bit s hs)
  rw [run_back hn hl] at v3 v4
  have hL : n * (n - 1) / 2 ≤ 1000 := by
    have : n * (n - 1) ≤ 12 * 11 := Nat.mul_le_mul hn (by omega)
    omega
  have q1 : SameK 8 (.tup (l.map .int)) := same_ints 6 l (by omega)
  have q2 : SameK 8 (.tup ((sortS (swL n) (putG 0 l (List.replicate n 0))).map .int)) := same_ints 6 _ (by omega)
  have q3 : fNe (.d (.tup (l.map .int))) (.d (.tup (l.map .int))) = some (.d (.bl false)) := by rw [ne_tl]; simp
  obtain ⟨ws, o2, v5, p2, hw⟩ := v_word cells o1 n hn l hl p1
  obtain ⟨u6, q6, hf⟩ := rf1_loop n s0 (.v (O.dic keys7 o2)) s2 s3 s4 (.v (.d (.tup ((sortS (swL n) (putG 0 l (List.replicate n 0))).map .int)))) (.v (il [])) (.v (.d (.tup (l.map .int)))) s10 s11 s12 .no ws s6 h6 hw
  refine ⟨o2, .v (.d (.tup ((sortS (swL n) (putG 0 l (List.replicate n 0))).map .int))), u6, .v (il []), .v (.d (.tup (l.map .int))), ?_, p2, rfl, q6, rfl, rfl⟩
  refine seq_nx (t1 h8 (rgB_n (by omega)) (rg_il n)) ?_
  refine seq_nx (t2 h9 (gR1_n (by omega)) e2) ?_
  refine seq_nx (t3 h5 v1) ?_
  refine seq_nx (t4 v2 v3 q1 q2) ?_
  refine seq_nx (t5 v1 q2) ?_
  refine seq_nx (t6 v4 q3) ?_
  exact t7 v5 hf
theorem sz_step (n : Int) (ds : List D) (B : En → Out) (e1 : En) (R : Out) (s0 s1 s2 s3 s4 s5 s6 s7 s8 s9 s10 s11 s12 s13 : Sl) (h7 : s7.pinned = false) (h : B [s0, s1, s2, s3, s4, s5, s6, .v (.d (.int n)), s8, s9, s10, s11, s12, s13] = .nx e1) (k : sForL (tName 7) B ds e1 = R) :
  sForL (tName 7) B (.int n :: ds) [s0, s1, s2, s3, s4, s5, s6, s7, s8, s9, s10, s11, s12, s13] = R := by
  rw [u2]
  simp [h7, h, k]
theorem law_body (ns : List Int) : ∃ e, b_law [.p (.d (.lst (ns.map .int))), .no, .no, .no, .no, .no, .no, .no, .no, .no, .no, .no, .no, .no] = .rt (.d (.bl true)) (.p (.d (.lst (ns.map .int))) :: e) := by
  obtain ⟨cells, q0, v1, p0⟩ := v_pool ns
  obtain ⟨o0, rfl⟩ : ∃ o0, q0 = (O.dic keys7 o0) := by
    obtain ⟨a, b, c, s, e, f, g, h⟩ := p0
    exact ⟨_, h⟩
  obtain ⟨a, o1, k1, ha, ha', p1⟩ := take_sp 9 p0 (by omega) (by omega)
  obtain ⟨b, o2, k2, hb, hb', p2⟩ := take_sp 9 p1 (by omega) (by omega)
  obtain ⟨c, o3, k3, hc, hc', p3⟩ := take_sp 13 p2 (by omega) (by omega)
  obtain ⟨d, o4, k4, hd, hd', p4⟩ := take_sp 3 p3 (by omega) (by omega)
  obtain ⟨n, v2, hn⟩ := pickN a b c d ⟨ha, ha'⟩ ⟨hb, hb'⟩ ⟨hc, hc'⟩ hd hd'
  have hL : n * (n - 1) / 2 ≤ 1000 := by
    have : n * (n - 1) ≤ 12 * 11 := Nat.mul_le_mul hn (by omega)
    omega
  have v3 := v_lay (.d (.lst (ns.map .int))) (O.dic keys7 o4) n hn
  obtain ⟨l, o5, v5, p5, hl, hbit⟩ := tk_lc (cells := cells) (.p (.d (.lst (ns.map .int)))) (.v (.d (.int n))) (.v (.lst ((layersD n).map .d))) .no .no .no .no .no .no .no .no .no ((swL n).map pairD) [] o4 (by rw [List.length_map, sw_len n hn]; show 0 + _ ≤ _; omega) (fun s hs => nomatch hs) p4
  have hl2 : l.length = n * (n - 1) / 2 := by rw [hl, List.length_map, sw_len n hn]; show 0 + _ = _; omega
  have v6 := v_sources n hn l hl2 hbit
  have v6' := v_lsrc n hn l hl2 hbit
  have q6 : SameK 8 (.tup ((runS (swL n) l (rangeI n)).map .int)) := same_ints 6 _ (by rw [runS_len, rangeI_len]; omega)
  obtain ⟨ws, o6, v8, p6, hw⟩ := v_wset cells o5 n l (by omega) p5
  rw [hl2] at hw
  obtain ⟨u6, h6, v8'⟩ := rf0_loop n hn (.p (.d (.lst (ns.map .int)))) (.v (O.dic keys7 o6)) (.v (.lst ((layersD n).map .d))) (.v (.d (.tup (l.map .int)))) (.v (.d (.tup ((runS (swL n) l (rangeI n)).map .int)))) .no .no .no .no .no .no .no ws .no rfl hw
  obtain ⟨x, o7, k7, hx, hx', p7⟩ := take_sp 7 p6 (by omega) (by omega)
  obtain ⟨y, o8, k8, hy, hy', p8⟩ := take_sp 13 p7 (by omega) (by omega)
  obtain ⟨x, rfl⟩ := Int.eq_ofNat_of_zero_le hx
  obtain ⟨y, rfl⟩ := Int.eq_ofNat_of_zero_le hy
  obtain ⟨o9, f5, f6, f8, f9, v9, p9, g5, g6, g8, g9⟩ := sz_body x (by omega) o8 p8 (.p (.d (.lst (ns.map .int)))) (.v (.d (.int n))) (.v (.lst ((layersD n).map .d))) (.v (.d (.tup (l.map .int)))) (.v (.d (.tup ((runS (swL n) l (rangeI n)).map .int)))) u6 .no .no .no .no .no rfl h6 rfl rfl
  obtain ⟨o10, j5, j6, j8, j9, v10, p10, _, _, _, _⟩ := sz_body y (by omega) o9 p9 (.p (.d (.lst (ns.map .int)))) (.v (.d (.int n))) (.v (.lst ((layersD n).map .d))) (.v (.d (.tup (l.map .int)))) f5 f6 f8 f9 .no .no .no g5 g6 g8 g9
  apply Exists.intro
  unfold b_law
  refine seq_nx (r1 v1 rfl) ?_
  refine seq_nx (r2 rfl k1 k2 k3 k4 v2) ?_
  refine seq_nx (r3 v3) ?_
  refine seq_nx (r4 (v_swp n hn) (lay_same n hn)) ?_
  refine seq_nx (r5 rfl (v_lsw n hn) v5) ?_
  refine seq_nx (r6 rfl v6 v6' q6) ?_
  refine seq_nx (r4 (v_swp n hn) (lay_same n hn)) ?_
  refine seq_nx (r8 v8 v8') ?_
  refine seq_nx (r9 (B := szB) k7 k8 (sz_step _ _ szB _ _ _ _ _ _ _ _ _ _ _ _ _ _ _ _ rfl v9 (sz_step _ _ szB _ _ _ _ _ _ _ _ _ _ _ _ _ _ _ _ rfl v10 u1))) ?_
  exact rfl
theorem dLaw (sc : O) (e : En) (h : b_law [.p sc, .no, .no, .no, .no, .no, .no, .no, .no, .no, .no, .no, .no, .no] = .rt (.d (.bl true)) (.p sc :: e)) : ∃ ps, d_law [sc] = .ok (.d (.bl true)) ps := by
  refine ⟨outE 1 (.p sc :: e), ?_⟩
  show denFn _ _ _ _ = _
  exact den_rt rfl h rfl
theorem value_law : ∀ ns : List Int, ns.length ≤ 63 → ∃ ps, d_law [.d (.lst (ns.map D.int))] = .ok (.d (.bl true)) ps := fun ns _ => by
  obtain ⟨e, h⟩ := law_body ns
  exact dLaw _ e h
end K73

open PySem PySem.W PyProof.Rows
set_option maxHeartbeats 0 in
theorem PySem.Challenge.cw_hushsheets_k73_sources_and_settings_holds : PySem.Challenge.rw_hushsheets_k73_sources_and_settings.Holds := by
  w_on; o_law; k_head; (case hw => w_witness2)
  k_fill
  refine L2.walk_of (l := PySem.Challenge.rw_hushsheets_k73_sources_and_settings) (n := 63) (k := 9) (x := "script") (CX := fun w => L2.CX PySem.Challenge.rw_hushsheets_k73_sources_and_settings.prog w) (sp := fun w => MX.spLaw _) rfl (by decide) rfl ⟨rfl, by decide, by decide⟩ (fun w h Y => PySem.W.kIn_of Y) ?F (fun _ _ a ns hl _ hS => ⟨a, ns, rfl, hS, hl, fun _ => rfl⟩) (fun _ _ _ _ _ ⟨_, _, _, _, _, _, _, _, _, _, _, _, h⟩ => h)
  case F =>
    intro w mg fa h KX G hmg
    refine' K73.all_mk KX G hmg ?a0 ?l0 ?c0 ?k0 ?a1 ?l1 ?c1 ?k1 ?a2 ?l2 ?c2 ?k2 ?a3 ?l3 ?c3 ?k3 ?a4 ?l4 ?c4 ?k4 ?a5 ?l5 ?c5 ?k5 ?a6 ?l6 ?c6 ?k6 ?a7 ?l7 ?c7 ?k7 ?a8 ?l8 ?c8 ?k8 ?a9 ?l9 ?c9 ?k9 ?a10 ?l10 ?c10 ?k10 ?a11 ?l11 ?c11 ?k11 ?a12 ?l12 ?c12 ?k12 ?a13 ?l13 ?c13 ?k13 ?a14 ?l14 ?c14 ?k14 ?a15 ?l15 ?c15 ?k15 ?gc_HushError ?k_HushError ?q_HushError ?b_HushError ?t_HushError ?ehg_HushError ?ehk_HushError ?ehs_HushError ?ehd_HushError ?eha_HushError ?ehm_HushError ?gc_BadStatement ?k_BadStatement ?q_BadStatement ?b_BadStatement ?t_BadStatement ?ehg_BadStatement ?ehk_BadStatement ?ehs_BadStatement ?ehd_BadStatement ?eha_BadStatement ?ehm_BadStatement ?gc_BadTape ?k_BadTape ?q_BadTape ?b_BadTape ?t_BadTape ?ehg_BadTape ?ehk_BadTape ?ehs_BadTape ?ehd_BadTape ?eha_BadTape ?ehm_BadTape ?ehn ?eht ?i_HushError_BadStatement ?i_BadStatement_BadStatement ?i_BadTape_BadStatement ?i_HushError_BadTape ?i_BadStatement_BadTape ?i_BadTape_BadTape ?x_HushError_HushError ?x_BadStatement_HushError ?x_BadTape_HushError ?z_bool ?z_enumerate ?z_int ?z_isinstance ?z_len ?z_list ?z_range ?z_sorted ?z_str ?z_tuple ?z_zip ?nl K73.value_law
    (case a0 => k_is)
    (case l0 => k_is)
    (case c0 => k_is)
    (case k0 => k_is)
    (case a1 => k_is)
    (case l1 => k_is)
    (case c1 => k_is)
    (case k1 => k_is)
    (case a2 => k_is)
    (case l2 => k_is)
    (case c2 => k_is)
    (case k2 => k_is)
    (case a3 => k_is)
    (case l3 => k_is)
    (case c3 => k_is)
    (case k3 => k_is)
    (case a4 => k_is)
    (case l4 => k_is)
    (case c4 => k_is)
    (case k4 => k_is)
    (case a5 => k_is)
    (case l5 => k_is)
    (case c5 => k_is)
    (case k5 => k_is)
    (case a6 => k_is)
    (case l6 => k_is)
    (case c6 => k_is)
    (case k6 => k_is)
    (case a7 => k_is)
    (case l7 => k_is)
    (case c7 => k_is)
    (case k7 => k_is)
    (case a8 => k_is)
    (case l8 => k_is)
    (case c8 => k_is)
    (case k8 => k_is)
    (case a9 => k_is)
    (case l9 => k_is)
    (case c9 => k_is)
    (case k9 => k_is)
    (case a10 => k_is)
    (case l10 => k_is)
    (case c10 => k_is)
    (case k10 => k_is)
    (case a11 => k_is)
    (case l11 => k_is)
    (case c11 => k_is)
    (case k11 => k_is)
    (case a12 => k_is)
    (case l12 => k_is)
    (case c12 => k_is)
    (case k12 => k_is)
    (case a13 => k_is)
    (case l13 => k_is)
    (case c13 => k_is)
    (case k13 => k_is)
    (case a14 => k_is)
    (case l14 => k_is)
    (case c14 => k_is)
    (case k14 => k_is)
    (case a15 => k_is)
    (case l15 => k_is)
    (case c15 => k_is)
    (case k15 => k_is)
    (case gc_HushError => k_is)
    (case k_HushError => k_is)
    (case q_HushError => kernel_rfl)
    (case b_HushError => k_is)
    (case t_HushError => k_is)
    (case ehg_HushError => k_is)
    (case ehk_HushError => k_is)
    (case ehs_HushError => k_is)
    (case ehd_HushError => k_is)
    (case eha_HushError => k_is)
    (case ehm_HushError => k_is)
    (case gc_BadStatement => k_is)
    (case k_BadStatement => k_is)
    (case q_BadStatement => kernel_rfl)
    (case b_BadStatement => k_is)
    (case t_BadStatement => k_is)
    (case ehg_BadStatement => k_is)
    (case ehk_BadStatement => k_is)
    (case ehs_BadStatement => k_is)
    (case ehd_BadStatement => k_is)
    (case eha_BadStatement => k_is)
    (case ehm_BadStatement => k_is)
    (case gc_BadTape => k_is)
    (case k_BadTape => k_is)
    (case q_BadTape => kernel_rfl)
    (case b_BadTape => k_is)
    (case t_BadTape => k_is)
    (case ehg_BadTape => k_is)
    (case ehk_BadTape => k_is)
    (case ehs_BadTape => k_is)
    (case ehd_BadTape => k_is)
    (case eha_BadTape => k_is)
    (case ehm_BadTape => k_is)
    (case ehn => k_is)
    (case eht => k_is)
    (case i_HushError_BadStatement => kernel_rfl)
    (case i_BadStatement_BadStatement => kernel_rfl)
    (case i_BadTape_BadStatement => kernel_rfl)
    (case i_HushError_BadTape => kernel_rfl)
    (case i_BadStatement_BadTape => kernel_rfl)
    (case i_BadTape_BadTape => kernel_rfl)
    (case x_HushError_HushError => kernel_rfl)
    (case x_BadStatement_HushError => kernel_rfl)
    (case x_BadTape_HushError => kernel_rfl)
    (case z_bool => k_is)
    (case z_enumerate => k_is)
    (case z_int => k_is)
    (case z_isinstance => k_is)
    (case z_len => k_is)
    (case z_list => k_is)
    (case z_range => k_is)
    (case z_sorted => k_is)
    (case z_str => k_is)
    (case z_tuple => k_is)
    (case z_zip => k_is)
    (case nl => kernel_rfl)

